import PyProof.Rows.All
import Wide.All
import OpenK.AllK
import Wide.FinOn
import HandS.ForMost
import HandS.Exc
import HandS.ExcOwn
import HandS.TryOnly
import HandS.CallSlots
import HandS.TupLe
import HandS.TupAny
import HandS.IsInst
import HandS.StrMore
import HandS.More
import HandS.Walk
import HandS.WordsExc
import HandS.ExcField
import HandS.ExcIs
import HandS.RaiseMore
import HandS.ExcInit
import HandS.Conv
import KE.KIntText
import KE.IntTextLaws
import HandS.CallRecv
import HandS.HotCalls
import HandS.HeadWalk
import HandS.ReplaceLit
import HandS.ReplaceList
import HandS.Small
import KE.KStateDown
import HandS.Ends
import HandS.Defaults
import HandS.Head0
import HandS.Head1
import HandS.Head2
import HandS.HeadHook1
import HandS.HeadHook2
import PySem.Challenge.RW_tintrow_k09_refusals_apart
set_option Elab.async false
set_option linter.all false
section
set_option linter.all false
/-! TrCore: value trees, a small language of slots, and its evaluator (plain Lean, no Python in sight). -/
namespace TR
abbrev Tx := List Nat

/-- values: trees; owned contents (olst, odct, oobj); references (loc a cell, sref a slot's own thing, fref a field's own thing); hid: an owned thing hidden while a loop walks it; scr: the script; exc: a caught exception -/
inductive D where
  | non | bl (b : Bool) | int (i : Int) | str (s : Tx)
  | tup (ds : List D) | lst (ds : List D) | dct (kvs : List (Tx × D)) | obj (c : Nat) (fs : List (Nat × D))
  | olst (ds : List D) | odct (kvs : List (Tx × D)) | oobj (c : Nat) (fs : List (Nat × D))
  | loc (n : Nat) | sref (i : Nat) | fref (n f : Nat)
  | hid | dead
  | scr (ns : List Int)
  | exc (c : Nat) (fs : List (Nat × D))
  deriving Inhabited

structure St where
  env : List (Option D)
  sto : List D

inductive R (α : Type) where
  | ok (a : α) (s : St)
  | exc (c : Nat) (fs : List (Nat × D)) (s : St)
  | stuck
def R.bind {α β : Type} (r : R α) (k : α → St → R β) : R β := match r with
  | .ok a s => k a s
  | .exc c fs s => .exc c fs s
  | .stuck => .stuck
def R.of {α : Type} (o : Option α) (s : St) : R α := match o with
  | some a => .ok a s
  | none => .stuck

/-- names of owned things -/
inductive Nm where
  | cell (n : Nat) | fld (n f : Nat) | slot (i : Nat)
  deriving DecidableEq

def owned : D → Bool
  | .olst _ => true | .odct _ => true | .oobj _ _ => true | .hid => true | _ => false
def isNon : D → Bool
  | .non => true | _ => false
def isF : D → Bool
  | .fref _ _ => true | _ => false
def fput (f : Nat) (d : D) : List (Nat × D) → List (Nat × D)
  | [] => [(f, d)]
  | (g, e) :: r => if g = f then (g, d) :: r else (g, e) :: fput f d r
def fldO (x : Option D) (f : Nat) : Option D := match x with
  | some (.oobj _ fs) => fs.lookup f
  | _ => none
def raw (s : St) : Nm → Option D
  | .slot i => (s.env[i]?).join
  | .cell n => s.sto[n]?
  | .fld n f => fldO s.sto[n]? f
def own (s : St) (nm : Nm) : Option D := (raw s nm).filter owned
def putAt (s : St) (nm : Nm) (d : D) : St := match nm with
  | .slot i => { s with env := s.env.set i (some d) }
  | .cell n => { s with sto := s.sto.set n d }
  | .fld n f => match s.sto[n]? with
    | some (.oobj c fs) => { s with sto := s.sto.set n (.oobj c (fput f d fs)) }
    | _ => s
def nmOf : D → Option Nm
  | .sref i => some (.slot i) | .fref n f => some (.fld n f) | .loc n => some (.cell n) | _ => none
/-- what is to be read at a value -/
def cont (s : St) (d : D) : Option D := match nmOf d with
  | some nm => own s nm
  | none => some d
def asLst (s : St) (d : D) : Option (List D) := match cont s d with
  | some (.lst ds) => some ds
  | some (.olst ds) => some ds
  | _ => none
def asDct (s : St) (d : D) : Option (List (Tx × D)) := match cont s d with
  | some (.dct ds) => some ds
  | some (.odct ds) => some ds
  | _ => none
def asObj (s : St) (d : D) : Option (Nat × List (Nat × D)) := match cont s d with
  | some (.obj c fs) => some (c, fs)
  | some (.oobj c fs) => some (c, fs)
  | _ => none
def frz : D → Option D
  | .olst ds => some (.lst ds)
  | .odct ds => some (.dct ds)
  | .oobj c fs => some (.obj c fs)
  | .fref _ _ => none
  | .sref _ => none
  | .hid => none
  | .dead => none
  | d => some d
/-- a value leaves for good: what it owns is frozen -/
def esc (s : St) (d : D) : R D := match d with
  | .sref i => (match own s (.slot i) with
    | some c => (match frz c with
      | some d' => .ok d' { s with env := s.env.set i (some d') }
      | none => .stuck)
    | none => .stuck)
  | d => R.of (frz d) s

inductive Bo where
  | add | sub | mul | fdiv | mod | pow | shr
  deriving DecidableEq
inductive Co where
  | eq | ne | lt | le | gt | ge | inn | nin
  deriving DecidableEq
inductive Bi where
  | len | str | int | list | dict | sorted | max | min | sum | lrev
  deriving DecidableEq
inductive Bm where
  | append | extend | insert | pop | clear | join | split | partition | startswith | index | get | update
  deriving DecidableEq
inductive Ic where
  | own (c : Nat) | int | bool | str | list | tuple | dict | verr
  deriving DecidableEq
inductive Sk where
  | it | rng1 | rng2 | enu | zip
  deriving DecidableEq
inductive Tg where
  | one (i : Nat) | many (is : List Nat)
  deriving DecidableEq

inductive E where
  | nil | cons (a r : E)
  | non | bl (b : Bool) | int (i : Int) | str (s : Tx)
  | var (i : Nat) | glob (g : Nat)
  | tup (a : E) | lst (a : E) | dic0
  | cel (a : E)
  | bin (o : Bo) (a b : E) | neg (a : E)
  | cmp (o : Co) (a b : E) | isN (a : E) | notN (a : E) | chn (o1 o2 : Co) (a b c : E)
  | and (a b : E) | or (a b : E) | not (a : E) | ife (t a b : E)
  | ix (a i : E) | sl (a lo hi : E) | fld (a : E) (f : Nat)
  | call (f : Nat) (a : E) | mth (o : E) (m : Nat) (a : E) | mk (c : Nat) (a : E) | mkc (c : Nat) (a : E)
  | bi (b : Bi) (a : E) | bm (b : Bm) (o a : E) | isi (a : E) (cs : List Ic)
  | rpl (pre : Option Tx) (o : E) (c e : Nat)
  | lc (elt : E) (tg : Tg) (ow : List Nat) (k : Sk) (a : E) (cond : E)
  deriving DecidableEq

inductive S where
  | skip | seq (a b : S)
  | asg (i : Nat) (e : E) | asgT (is : List Nat) (e : E) | setIx (a i e : E) | setFld (a : E) (f : Nat) (e : E)
  | expr (e : E) | ret (e : E)
  | ifs (t : E) (a b : S) | whl (t : E) (b : S) | fors (tg : Tg) (k : Sk) (a : E) (body : S)
  | brk | cnt
  | raise (c : Nat) (a : E) | tryS (body : S) (c : Nat) (x : Option Nat) (h : S)
  deriving DecidableEq

structure Fn where
  np : Nat
  nl : Nat
  gc : Bool
  body : S
/-- the program's tables: functions, methods by class, constructors, subclasses, module constants, methods that are gc in every class, the fields of an exception's class -/
structure Tb where
  fn : Nat → Option Fn
  mth : Nat → Nat → Option Nat
  ini : Nat → Option (Option Nat)
  sub : Nat → Nat → Bool
  glob : Nat → Option D
  mgc : Nat → Bool
  exn : Nat → Option (List Nat)

/-! ### operations -/
def lim : Nat := 1000000
def intsD : List D → Option (List Int)
  | [] => some []
  | .int i :: r => (intsD r).map (i :: ·)
  | _ => none
def strsD : List D → Option (List Tx)
  | [] => some []
  | .str i :: r => (strsD r).map (i :: ·)
  | _ => none
def lexLt : List Int → List Int → Bool
  | [], [] => false
  | [], _ :: _ => true
  | _ :: _, [] => false
  | x :: xs, y :: ys => if x = y then lexLt xs ys else decide (x < y)
/-- data of a depth -/
def dat : Nat → D → Bool
  | 0, _ => false
  | _ + 1, .non => true
  | _ + 1, .bl _ => true
  | _ + 1, .int _ => true
  | _ + 1, .str _ => true
  | n + 1, .tup ds => ds.all (dat n)
  | n + 1, .lst ds => ds.all (dat n)
  | _ + 1, _ => false
def all2 (p : D → D → Bool) : List D → List D → Bool
  | [], [] => true
  | x :: xs, y :: ys => p x y && all2 p xs ys
  | _, _ => false
def eqv : Nat → D → D → Bool
  | 0, _, _ => false
  | n + 1, .tup xs, .tup ys => all2 (eqv n) xs ys
  | n + 1, .lst xs, .lst ys => all2 (eqv n) xs ys
  | _ + 1, .non, .non => true
  | _ + 1, .bl a, .bl b => a == b
  | _ + 1, .int i, .int j => i == j
  | _ + 1, .bl a, .int j => (if a then 1 else 0) == j
  | _ + 1, .int i, .bl b => i == (if b then 1 else 0)
  | _ + 1, .str x, .str y => x == y
  | _ + 1, _, _ => false
/-- a list of its own is compared as a list -/
def dataOf (s : St) (d : D) : Option D := match cont s d with
  | some (.olst ds) => some (.lst ds)
  | some d => some d
  | none => none
def eqD (s : St) (a b : D) : Option Bool := match dataOf s a, dataOf s b with
  | some x, some y => if dat 20 x && dat 20 y then some (eqv 20 x y) else none
  | _, _ => none
def flat : D → Bool
  | .non => true | .bl _ => true | .int _ => true | .str _ => true | _ => false
def asSeq (s : St) (d : D) : Option (List D) := match cont s d with
  | some (.lst ds) => some ds
  | some (.olst ds) => some ds
  | some (.tup ds) => some ds
  | _ => none
def inD (s : St) (x c : D) : Option Bool := match cont s c with
  | some (.str z) => (match x with
    | .str [n] => some (z.contains n)
    | _ => none)
  | some (.dct kvs) => (match x with
    | .str z => some ((kvs.map (·.1)).contains z)
    | _ => none)
  | some (.odct kvs) => (match x with
    | .str z => some ((kvs.map (·.1)).contains z)
    | _ => none)
  | _ => match asSeq s c with
    | some ds => if flat x && ds.all flat then some (ds.any fun y => eqv 1 y x) else none
    | none => none
def binD (o : Bo) (s : St) (a b : D) : Option D := match o, a, b with
  | .add, .int i, .int j => some (.int (i + j))
  | .sub, .int i, .int j => some (.int (i - j))
  | .mul, .int i, .int j => if (-18446744073709551616 < i ∧ i < 18446744073709551616) ∨ (-18446744073709551616 < j ∧ j < 18446744073709551616) then some (.int (i * j)) else none
  | .fdiv, .int i, .int j => if 0 < j ∧ j < 1073741824 then some (.int (i / j)) else none
  | .mod, .int i, .int j => if 0 < j then some (.int (i % j)) else none
  | .pow, .int i, .int j => if 0 ≤ j ∧ j ≤ 1000 ∧ -1000 ≤ i ∧ i ≤ 1000 then some (.int (i ^ j.toNat)) else none
  | .shr, .int i, .int j => if 0 ≤ j then some (.int (i / 2 ^ j.toNat)) else none
  | .add, .str x, .str y => if x.length + y.length ≤ lim then some (.str (x ++ y)) else none
  | .add, .tup x, .tup y => if x.length + y.length ≤ lim ∧ x ≠ [] ∧ y ≠ [] then some (.tup (x ++ y)) else none
  | .add, a, b => (match asLst s a, asLst s b with
    | some xs, some ys => if xs.length + ys.length ≤ lim then some (.olst (xs ++ ys)) else none
    | _, _ => none)
  | .mul, a, .int k => (match asLst s a with
    | some xs => if 0 ≤ k ∧ k ≤ 100000 ∧ xs.length * k.toNat ≤ lim then some (.olst (List.replicate k.toNat xs).flatten) else none
    | none => none)
  | _, _, _ => none
def cmpD (o : Co) (s : St) (a b : D) : Option Bool := match o with
  | .eq => eqD s a b
  | .ne => (eqD s a b).map (!·)
  | .inn => inD s a b
  | .nin => (inD s a b).map (!·)
  | .lt => (match a, b with
    | .int i, .int j => some (decide (i < j))
    | .tup x, .tup y => (match intsD x, intsD y with
      | some i, some j => some (lexLt i j)
      | _, _ => none)
    | _, _ => none)
  | .le => (match a, b with
    | .int i, .int j => some (decide (i ≤ j))
    | .tup x, .tup y => (match intsD x, intsD y with
      | some i, some j => some (!lexLt j i)
      | _, _ => none)
    | _, _ => none)
  | .gt => (match a, b with
    | .int i, .int j => some (decide (j < i))
    | _, _ => none)
  | .ge => (match a, b with
    | .int i, .int j => some (decide (j ≤ i))
    | _, _ => none)
/-- the place of an index -/
def ixN (n : Nat) (i : Int) : Option Nat := if 0 ≤ i then (if i < n then some i.toNat else none) else if -(n : Int) ≤ i then some (i + n).toNat else none
def atI {α : Type} (xs : List α) (i : Int) : Option α := (ixN xs.length i).bind fun j => xs[j]?
def ixD (s : St) (a b : D) : Option D := match b with
  | .int i => (match cont s a with
    | some (.lst ds) => atI ds i
    | some (.olst ds) => atI ds i
    | some (.tup ds) => atI ds i
    | some (.str z) => (atI z i).map fun n => .str [n]
    | some (.scr ns) => (atI ns i).map .int
    | _ => none)
  | .str k => (match cont s a with
    | some (.dct kvs) => kvs.lookup k
    | some (.odct kvs) => kvs.lookup k
    | _ => none)
  | _ => none
def sIx (n d : Nat) : Option Int → Nat
  | none => d
  | some i => if i < 0 then (i + n).toNat else min i.toNat n
def cut {α : Type} (xs : List α) (lo hi : Option Int) : List α := (xs.drop (sIx xs.length 0 lo)).take (sIx xs.length xs.length hi - sIx xs.length 0 lo)
def slD (s : St) (a : D) (lo hi : Option Int) : Option D := match cont s a with
  | some (.lst ds) => some (.olst (cut ds lo hi))
  | some (.olst ds) => some (.olst (cut ds lo hi))
  | some (.str z) => some (.str (cut z lo hi))
  | some (.tup ds) => some (.tup (cut ds lo hi))
  | _ => none
def tlt : Tx → Tx → Bool
  | [], [] => false
  | [], _ :: _ => true
  | _ :: _, [] => false
  | a :: r, b :: t => a < b || (a == b && tlt r t)
def insT (x : Tx) : List Tx → List Tx
  | [] => [x]
  | y :: r => if tlt y x then y :: insT x r else x :: y :: r
def sortT : List Tx → List Tx
  | [] => []
  | x :: r => insT x (sortT r)
def digits (n : Nat) : Tx := (toString n).toList.map Char.toNat
def showI (i : Int) : Tx := (toString i).toList.map Char.toNat
/-- the number that a text of figures writes -/
def readI (z : Tx) : Option Int := if z ≠ [] ∧ z.length ≤ 18 ∧ z.all (fun c => 48 ≤ c && c ≤ 57) then some ((z.foldl (fun v c => v * 10 + (c - 48)) 0 : Nat) : Int) else none
def biD (b : Bi) (s : St) (ds : List D) : Option D := match b, ds with
  | .len, [a] => (match cont s a with
    | some (.lst ds) => some (.int ds.length)
    | some (.olst ds) => some (.int ds.length)
    | some (.tup ds) => some (.int ds.length)
    | some (.str z) => some (.int z.length)
    | some (.scr ns) => some (.int ns.length)
    | _ => none)
  | .int, [.int i] => some (.int i)
  | .int, [.bl b] => some (.int (if b then 1 else 0))
  | .int, [.str z] => (readI z).map .int
  | .str, [.int i] => if 0 ≤ i ∧ i < 10000000000 then some (.str (showI i)) else none
  | .list, [a] => (match cont s a with
    | some (.lst ds) => some (.olst ds)
    | some (.olst ds) => some (.olst ds)
    | some (.tup ds) => some (.olst ds)
    | some (.str z) => some (.olst (z.map fun n => .str [n]))
    | _ => none)
  | .dict, [a] => (asDct s a).map .odct
  | .sorted, [a] => (match cont s a with
    | some (.dct kvs) => if kvs.length < 64 then some (.olst ((sortT (kvs.map (·.1))).map .str)) else none
    | some (.odct kvs) => if kvs.length < 64 then some (.olst ((sortT (kvs.map (·.1))).map .str)) else none
    | _ => match (asLst s a).bind strsD with
      | some zs => if zs.length < 64 then some (.olst ((sortT zs).map .str)) else none
      | none => none)
  | .max, [.int i, .int j] => some (.int (if j > i then j else i))
  | .min, [.int i, .int j] => some (.int (if j < i then j else i))
  | .sum, [a] => ((asLst s a).bind intsD).map fun ns => .int ns.sum
  | _, _ => none
/-! texts -/
def splitOn (sep : Nat) : Tx → List Tx
  | [] => [[]]
  | c :: r => if c = sep then [] :: splitOn sep r else match splitOn sep r with
    | [] => [[c]]
    | w :: ws => (c :: w) :: ws
/-- split at each sep, a text of one or two signs -/
def split2 (a b : Nat) : Tx → List Tx
  | [] => [[]]
  | [c] => [[c]]
  | c :: d :: r => if c = a ∧ d = b then [] :: split2 a b r else match split2 a b (d :: r) with
    | [] => [[c]]
    | w :: ws => (c :: w) :: ws
def joinT (sep : Tx) : List Tx → Tx
  | [] => []
  | [w] => w
  | w :: r => w ++ sep ++ joinT sep r
def pfx : Tx → Tx → Bool
  | [], _ => true
  | _ :: _, [] => false
  | a :: r, b :: t => a == b && pfx r t
def dput (k : Tx) (d : D) (kvs : List (Tx × D)) : List (Tx × D) := if kvs.any (fun p => p.1 == k) then kvs.map (fun p => if p.1 = k then (p.1, d) else p) else kvs ++ [(k, d)]
def ddel (k : Tx) : List (Tx × D) → List (Tx × D)
  | [] => []
  | (g, e) :: r => if g = k then r else (g, e) :: ddel k r
def idxOf (x : D) : List D → Option Nat
  | [] => none
  | y :: r => if eqv 1 y x then some 0 else (idxOf x r).map (· + 1)
/-- the receiver is of the method's type -/
def rk (b : Bm) (s : St) (x : D) : Bool := match b with
  | .join => (match x with | .str _ => true | _ => false)
  | .split => (match x with | .str _ => true | _ => false)
  | .startswith => (match x with | .str _ => true | _ => false)
  | _ => (asLst s x).isSome
/-- a value that may be kept -/
def keepOk (d : D) : Bool := match d with
  | .olst _ => false | .odct _ => false | .oobj _ _ => false | .sref _ => false | .fref _ _ => false | .hid => false | .dead => false | _ => true
def bmD (b : Bm) (s : St) (x : D) (ds : List D) : R D := match b, ds with
  | .append, [d] => (esc s d).bind fun d s => (match nmOf x with
    | some nm => (match own s nm with
      | some (.olst xs) => if xs.length < lim then .ok .non (putAt s nm (.olst (xs ++ [d]))) else .stuck
      | _ => .stuck)
    | none => .stuck)
  | .extend, [d] => (match asLst s d, nmOf x with
    | some ys, some nm => (match own s nm with
      | some (.olst xs) => if xs.length + ys.length ≤ lim then .ok .non (putAt s nm (.olst (xs ++ ys))) else .stuck
      | _ => .stuck)
    | _, _ => .stuck)
  | .insert, [.int i, d] => (esc s d).bind fun d s => (match nmOf x with
    | some nm => (match own s nm with
      | some (.olst xs) => if xs.length < lim ∧ 0 ≤ i ∧ i ≤ xs.length then .ok .non (putAt s nm (.olst (xs.take i.toNat ++ d :: xs.drop i.toNat))) else .stuck
      | _ => .stuck)
    | none => .stuck)
  | .pop, [] => (match nmOf x with
    | some nm => (match own s nm with
      | some (.olst xs) => (match xs.getLast? with
        | some d => .ok d (putAt s nm (.olst xs.dropLast))
        | none => .stuck)
      | _ => .stuck)
    | none => .stuck)
  | .clear, [] => (match nmOf x with
    | some nm => (match own s nm with
      | some (.olst _) => .ok .non (putAt s nm (.olst []))
      | _ => .stuck)
    | none => .stuck)
  | .join, [d] => (match x, (asLst s d).bind strsD with
    | .str sep, some ws => if (joinT sep ws).length ≤ lim ∧ ws.length ≤ lim then .ok (.str (joinT sep ws)) s else .stuck
    | _, _ => .stuck)
  | .split, [.str [c]] => (match x with
    | .str z => .ok (.olst ((splitOn c z).map .str)) s
    | _ => .stuck)
  | .split, [.str [a, b]] => (match x with
    | .str z => .ok (.olst ((split2 a b z).map .str)) s
    | _ => .stuck)
  | .startswith, [.str w, .int i] => (match x with
    | .str z => if 0 ≤ i ∧ i ≤ z.length then .ok (.bl (pfx w (z.drop i.toNat))) s else .stuck
    | _ => .stuck)
  | .index, [d] => (match asLst s x with
    | some ys => if flat d && ys.all flat then (match idxOf d ys with
        | some j => .ok (.int j) s
        | none => .stuck) else .stuck
    | none => .stuck)
  | _, _ => .stuck
/-- what is walked -/
def srcIt (s : St) (d : D) : Option (List D) := match cont s d with
  | some (.lst ds) => some ds
  | some (.olst ds) => some ds
  | some (.tup ds) => some ds
  | some (.str z) => some (z.map fun n => .str [n])
  | some (.scr ns) => some (ns.map .int)
  | _ => none
def enum : Nat → List D → List D
  | _, [] => []
  | k, d :: r => .tup [.int k, d] :: enum (k + 1) r
def zipD : List D → List D → List D
  | x :: xs, y :: ys => .tup [x, y] :: zipD xs ys
  | _, _ => []
def rng (lo hi : Int) : List D := (List.range (hi - lo).toNat).map fun (k : Nat) => .int (lo + k)
def srcD (k : Sk) (s : St) (ds : List D) : Option (List D) := match k, ds with
  | .it, [d] => srcIt s d
  | .rng1, [.int n] => if -4611686018427387904 ≤ n ∧ n < 4611686018427387904 then some (rng 0 n) else none
  | .rng2, [.int a, .int b] => if (-4611686018427387904 ≤ a ∧ a < 4611686018427387904) ∧ -4611686018427387904 ≤ b ∧ b < 4611686018427387904 then some (rng a b) else none
  | .enu, [d] => (asLst s d).map (enum 0)
  | .zip, [a, b] => (match asLst s a, asLst s b with
    | some xs, some ys => some (zipD xs ys)
    | _, _ => none)
  | _, _ => none
/-- the owned things among what is walked, hidden meanwhile -/
def nms (ds : List D) : List Nm := ds.filterMap nmOf
def hide (s : St) : List Nm → Option (St × Option (Nm × D))
  | [] => some (s, none)
  | [nm] => match own s nm with
    | some (.olst ds) => some (putAt s nm .hid, some (nm, .olst ds))
    | _ => none
  | _ => none
def unhide (s : St) : Option (Nm × D) → Option St
  | none => some s
  | some (nm, d) => match own s nm with
    | some .hid => some (putAt s nm d)
    | _ => none
def setAll (env : List (Option D)) : List Nat → List D → List (Option D)
  | i :: is, d :: ds => setAll (env.set i (some d)) is ds
  | _, _ => env
def bindT (tg : Tg) (d : D) (s : St) : Option St := match tg with
  | .one i => if keepOk d then some { s with env := s.env.set i (some d) } else none
  | .many is => match d with
    | .tup ds => if ds.length = is.length then some { s with env := setAll s.env is ds } else none
    | _ => none
/-- these slots own nothing -/
def noOwn (env : List (Option D)) (vs : List Nat) : Bool := vs.all fun v => match (env[v]?).join with
  | some d => !owned d
  | none => true
def wipe (env : List (Option D)) : List Nat → List (Option D)
  | [] => env
  | v :: vs => (wipe env vs).set v none
def restore (env0 env : List (Option D)) : List Nat → List (Option D)
  | [] => env
  | v :: vs => (restore env0 env vs).set v (env0[v]?.join)
def isIc (T : Tb) (s : St) (d : D) : Ic → Option Bool
  | .verr => (match d with
    | .exc c' _ => some (T.sub c' 99)
    | _ => none)
  | .own c => (match d with
    | .exc c' _ => some (T.sub c' c)
    | d => (match asObj s d with
      | some (c', _) => some (T.sub c' c)
      | none => if flat d then some false else none))
  | .int => (match d with | .int _ => some true | .bl _ => some true | .non => some false | .str _ => some false | _ => none)
  | .bool => (match d with | .bl _ => some true | .int _ => some false | .non => some false | .str _ => some false | _ => none)
  | .str => (match d with | .str _ => some true | .int _ => some false | .non => some false | .bl _ => some false | _ => none)
  | .list => (match cont s d with | some (.lst _) => some true | some (.olst _) => some true | some (.tup _) => some false | some (.int _) => some false | some .non => some false | some (.str _) => some false | _ => none)
  | .tuple => (match cont s d with | some (.tup _) => some true | some (.lst _) => some false | some (.olst _) => some false | some .non => some false | some (.int _) => some false | some (.str _) => some false | _ => none)
  | .dict => (match cont s d with | some (.dct _) => some true | some (.odct _) => some true | some (.lst _) => some false | some (.olst _) => some false | some .non => some false | _ => none)
def anyIc (T : Tb) (s : St) (d : D) : List Ic → Option Bool
  | [] => some false
  | c :: r => match isIc T s d c with
    | some true => some true
    | some false => anyIc T s d r
    | none => none

/-! ### the evaluator -/
abbrev Fi := Bool → Nat → List D → List D → R D
def E.calm (T : Tb) : E → Bool
  | .cons a r => a.calm T && r.calm T
  | .tup a => a.calm T | .lst a => a.calm T | .cel a => a.calm T
  | .bin _ a b => a.calm T && b.calm T | .neg a => a.calm T
  | .cmp _ a b => a.calm T && b.calm T | .isN a => a.calm T | .notN a => a.calm T | .chn _ _ a b c => a.calm T && b.calm T && c.calm T
  | .and a b => a.calm T && b.calm T | .or a b => a.calm T && b.calm T | .not a => a.calm T | .ife t a b => t.calm T && a.calm T && b.calm T
  | .ix a i => a.calm T && i.calm T | .sl a lo hi => a.calm T && lo.calm T && hi.calm T | .fld a _ => a.calm T
  | .call f a => (match T.fn f with | some fd => fd.gc | none => false) && a.calm T
  | .mth o m a => T.mgc m && o.calm T && a.calm T
  | .mk _ a => a.calm T | .mkc _ _ => false
  | .bi _ a => a.calm T | .bm _ o a => o.calm T && a.calm T | .isi a _ => a.calm T
  | .rpl _ o _ _ => o.calm T
  | .lc e _ _ _ a c => e.calm T && a.calm T && c.calm T
  | _ => true
def objOf (s : St) (x : D) : Option (Nat × List (Nat × D)) := match x with
  | .exc c fs => some (c, fs)
  | x => asObj s x
def fldR (f : Nat) (s : St) (x d : D) : R D := if owned d then (match x, d with
  | _, .hid => .stuck
  | .loc n, _ => .ok (.fref n f) s
  | _, _ => .stuck) else .ok d s
def isNil : E → Bool
  | .nil => true | _ => false
def recvOk : D → Bool
  | .sref _ => false | .fref _ _ => false | .olst _ => false | .odct _ => false | .oobj _ _ => false | .hid => false | .dead => false | _ => true
def callR (F : Fi) (ini : Bool) (f : Nat) (ds : List D) (s : St) : R D := match F ini f ds s.sto with
  | .ok d r => .ok d { s with sto := r.sto }
  | .exc c fs r => .exc c fs { s with sto := r.sto }
  | .stuck => .stuck
def lcL (bind : D → St → Option St) (cond : St → R Bool) (elt : St → R D) : List D → List D → St → R (List D)
  | [], acc, s => .ok acc s
  | d :: ds, acc, s => match bind d s with
    | none => .stuck
    | some s => (match cond s with
      | .ok true s => (match elt s with
        | .ok x s => (match esc s x with
          | .ok x s => if acc.length < lim then lcL bind cond elt ds (acc ++ [x]) s else .stuck
          | _ => .stuck)
        | _ => .stuck)
      | .ok false s => lcL bind cond elt ds acc s
      | _ => .stuck)
def asB (r : R D) : R Bool := r.bind fun d s => match d with
  | .bl b => .ok b s
  | _ => .stuck
def optI (e : E) (k : St → R D) (s : St) : R (Option Int) := match e with
  | .nil => .ok none s
  | _ => (k s).bind fun d s => match d with
    | .int i => .ok (some i) s
    | _ => .stuck
def condB (e : E) (k : St → R D) (s : St) : R Bool := match e with
  | .nil => .ok true s
  | _ => asB (k s)
section
variable (T : Tb) (F : Fi)
mutual
def evE : E → St → R D
  | .nil, _ => .stuck
  | .cons _ _, _ => .stuck
  | .non, s => .ok .non s
  | .bl b, s => .ok (.bl b) s
  | .int i, s => .ok (.int i) s
  | .str z, s => .ok (.str z) s
  | .var i, s => (match s.env[i]? with
    | some (some d) => if owned d then (match d with
        | .hid => .stuck
        | _ => .ok (.sref i) s) else .ok d s
    | _ => .stuck)
  | .glob g, s => R.of (T.glob g) s
  | .tup a, s => (evA a s).bind fun ds s => .ok (.tup ds) s
  | .lst a, s => (evA a s).bind fun ds s => .ok (.olst ds) s
  | .dic0, s => .ok (.odct []) s
  | .cel a, s => (evE a s).bind fun d s => (match d with
    | .olst _ => .ok (.loc s.sto.length) { s with sto := s.sto ++ [d] }
    | .odct _ => .ok (.loc s.sto.length) { s with sto := s.sto ++ [d] }
    | _ => .stuck)
  | .bin o a b, s => (evE a s).bind fun x s => if isF x && !b.calm T then .stuck else (evE b s).bind fun y s => R.of (binD o s x y) s
  | .neg a, s => (evE a s).bind fun x s => (match x with
    | .int i => .ok (.int (-i)) s
    | _ => .stuck)
  | .cmp o a b, s => (evE a s).bind fun x s => if isF x && !b.calm T then .stuck else (evE b s).bind fun y s => R.of ((cmpD o s x y).map .bl) s
  | .isN a, s => (evE a s).bind fun x s => .ok (.bl (isNon x)) s
  | .notN a, s => (evE a s).bind fun x s => .ok (.bl (!isNon x)) s
  | .chn o1 o2 a b c, s => (evE a s).bind fun x s => if isF x && !b.calm T then .stuck else (evE b s).bind fun y s => (match cmpD o1 s x y with
    | some true => if isF y then .stuck else (evE c s).bind fun z s => R.of ((cmpD o2 s y z).map .bl) s
    | some false => .ok (.bl false) s
    | none => .stuck)
  | .and a b, s => (asB (evE a s)).bind fun c s => if c then (asB (evE b s)).bind fun c s => .ok (.bl c) s else .ok (.bl false) s
  | .or a b, s => (asB (evE a s)).bind fun c s => if c then .ok (.bl true) s else (asB (evE b s)).bind fun c s => .ok (.bl c) s
  | .not a, s => (asB (evE a s)).bind fun c s => .ok (.bl (!c)) s
  | .ife t a b, s => (asB (evE t s)).bind fun c s => if c then evE a s else evE b s
  | .ix a i, s => (evE a s).bind fun x s => if isF x && !i.calm T then .stuck else (evE i s).bind fun y s => R.of (ixD s x y) s
  | .sl a lo hi, s => (evE a s).bind fun x s => if isF x && !(lo.calm T && hi.calm T) then .stuck else (optI lo (evE lo) s).bind fun l s => (optI hi (evE hi) s).bind fun h s => R.of (slD s x l h) s
  | .fld a f, s => (evE a s).bind fun x s => (match objOf s x with
    | some (_, fs) => (match fs.lookup f with
      | some d => fldR f s x d
      | none => .stuck)
    | none => .stuck)
  | .call f a, s => if (T.fn f).isSome then (evA a s).bind fun ds s => callR F false f ds s else .stuck
  | .mth o m a, s => (evE o s).bind fun x s => if recvOk x then (match asObj s x with
      | some (c, _) => (match T.mth c m with
        | some f => (evA a s).bind fun ds s => callR F false f (x :: ds) s
        | none => .stuck)
      | none => .stuck) else .stuck
  | .mk c a, s => (match T.ini c with
    | some (some f) => (evA a s).bind fun ds s => callR F true f (.oobj c [] :: ds) s
    | some none => if isNil a then .ok (.oobj c []) s else .stuck
    | none => .stuck)
  | .mkc c a, s => (match T.ini c with
    | some (some f) => (evA a s).bind fun ds s => (callR F false f (.loc s.sto.length :: ds) { s with sto := s.sto ++ [.oobj c []] }).bind fun d s' => (match d with
      | .non => .ok (.loc s.sto.length) s'
      | _ => .stuck)
    | _ => .stuck)
  | .bi b a, s => (evB a s).bind fun ds s => R.of (biD b s ds) s
  | .bm b o a, s => (evE o s).bind fun x s => if (isF x && !a.calm T) || !rk b s x then .stuck else (evB a s).bind fun ds s => bmD b s x ds
  | .rpl pre o c e, s => (evE o s).bind fun x s => (match x, pre with
    | .str z, none => .ok (.str ((z.drop 1).map fun n => if n = c then e else n)) s
    | .str z, some w => if w.length + z.length ≤ lim then .ok (.str (w ++ z.map fun n => if n = c then e else n)) s else .stuck
    | _, _ => .stuck)
  | .isi a cs, s => (evE a s).bind fun x s => R.of ((anyIc T s x cs).map .bl) s
  | .lc elt tg ow k a cond, s => (evB a s).bind fun ds s => (match srcD k s ds with
    | none => .stuck
    | some items => (match hide s (nms ds) with
      | none => .stuck
      | some (s1, ps) => if noOwn s1.env ow then (match lcL (fun d s => bindT tg d { s with env := wipe s.env ow }) (condB cond (evE cond)) (evE elt) items [] { s1 with env := wipe s1.env ow } with
        | .ok acc s2 => (match unhide { s2 with env := restore s1.env s2.env ow } ps with
          | some s3 => .ok (.olst acc) s3
          | none => .stuck)
        | _ => .stuck) else .stuck))
def evA : E → St → R (List D)
  | .nil, s => .ok [] s
  | .cons a r, s => (evE a s).bind fun x s => (esc s x).bind fun x s => (evA r s).bind fun xs s => .ok (x :: xs) s
  | _, _ => .stuck
def evB : E → St → R (List D)
  | .nil, s => .ok [] s
  | .cons a r, s => (evE a s).bind fun x s => if isF x && !r.calm T then .stuck else (evB r s).bind fun xs s => .ok (x :: xs) s
  | _, _ => .stuck
end
end

/-! ### statements -/
inductive Fl where
  | nx (s : St) | brk (s : St) | cnt (s : St) | ret (d : D) (s : St)
  | exc (c : Nat) (fs : List (Nat × D)) (s : St)
  | stuck
def Fl.then (r : Fl) (k : St → Fl) : Fl := match r with
  | .nx s => k s
  | r => r
def R.fl {α : Type} (r : R α) (k : α → St → Fl) : Fl := match r with
  | .ok a s => k a s
  | .exc c fs s => .exc c fs s
  | .stuck => .stuck
/-- the walked things shown again, however the loop was left -/
def Fl.show (ps : Option (Nm × D)) (r : Fl) : Fl :=
  let u (s : St) (k : St → Fl) : Fl := match unhide s ps with
    | some s => k s
    | none => .stuck
  match r with
  | .nx s => u s .nx
  | .brk s => u s .brk
  | .cnt s => u s .cnt
  | .ret d s => u s (.ret d)
  | .exc c fs s => u s (.exc c fs)
  | .stuck => .stuck
def forL (bind : D → St → Option St) (body : St → Fl) : List D → St → Fl
  | [], s => .nx s
  | d :: ds, s => match bind d s with
    | none => .stuck
    | some s => (match body s with
      | .nx s => forL bind body ds s
      | .cnt s => forL bind body ds s
      | .brk s => .nx s
      | r => r)
def whlL (test : St → R Bool) (body : St → Fl) : Nat → St → Fl
  | 0, _ => .stuck
  | n + 1, s => (test s).fl fun b s => if b then (match body s with
      | .nx s => whlL test body n s
      | .cnt s => whlL test body n s
      | .brk s => .nx s
      | r => r) else .nx s
/-- an except suite's end: it lets nothing out -/
def suite0 (r : Fl) : Fl := match r with
  | .exc _ _ _ => .stuck
  | r => r
/-- .. its name is forgotten -/
def suiteN (i : Nat) (r : Fl) : Fl := match r with
  | .nx s => .nx { s with env := s.env.set i none }
  | .brk s => .brk { s with env := s.env.set i none }
  | .cnt s => .cnt { s with env := s.env.set i none }
  | .ret d s => .ret d s
  | _ => .stuck
def suiteF (x : Option Nat) (h : St → Fl) (e : D) (s : St) : Fl := match x with
  | some i => suiteN i (h { s with env := s.env.set i (some e) })
  | none => suite0 (h s)
def most : Nat := 1000000
def setIxD (s : St) (x i d : D) : Fl := match nmOf x with
  | none => .stuck
  | some nm => (match own s nm, i with
    | some (.olst xs), .int k => (match ixN xs.length k with
      | some j => .nx (putAt s nm (.olst (xs.set j d)))
      | none => .stuck)
    | some (.odct kvs), .str k => if kvs.length < lim then .nx (putAt s nm (.odct (dput k d kvs))) else .stuck
    | _, _ => .stuck)
def ldt : D → Bool
  | .olst _ => true | .odct _ => true | _ => false
def fldPut (s : St) (nm : Nm) (f : Nat) (d : D) : Fl := match own s nm with
  | some (.oobj c fs) => if fs.length < 100 then .nx (putAt s nm (.oobj c (fput f d fs))) else .stuck
  | _ => .stuck
def setFldD (s : St) (x : D) (f : Nat) (d : D) : Fl := match x with
  | .loc n => if ldt d then fldPut s (.cell n) f d else (esc s d).fl fun d s => fldPut s (.cell n) f d
  | .sref i => (esc s d).fl fun d s => fldPut s (.slot i) f d
  | _ => .stuck
def tmpD : D → Bool
  | .olst _ => true | .odct _ => true | .oobj _ _ => true | _ => false
def asgD (s : St) (i : Nat) (d : D) : Fl := if tmpD d then (if i = 0 then .stuck else .nx { s with env := s.env.set i (some d) })
  else (esc s d).fl fun d s => .nx { s with env := s.env.set i (some d) }
def retD (s : St) (d : D) : Fl := match d with
  | .sref i => (match own s (.slot i) with
    | some .hid => .stuck
    | some c => .ret c { s with env := s.env.set i none }
    | none => .stuck)
  | .fref _ _ => .stuck
  | .hid => .stuck
  | .dead => .stuck
  | d => .ret d s
section
variable (T : Tb) (F : Fi)
def evS : S → St → Fl
  | .skip, s => .nx s
  | .seq a b, s => (evS a s).then (evS b)
  | .asg i e, s => (evE T F e s).fl fun d s => asgD s i d
  | .asgT is e, s => (evE T F e s).fl fun d s => (match bindT (.many is) d s with
    | some s => .nx s
    | none => .stuck)
  | .setIx a i e, s => (evE T F e s).fl fun d s => (esc s d).fl fun d s => (evE T F a s).fl fun x s => if isF x && !i.calm T then .stuck else (evE T F i s).fl fun y s => setIxD s x y d
  | .setFld a f e, s => (evE T F e s).fl fun d s => (evE T F a s).fl fun x s => setFldD s x f d
  | .expr e, s => (evE T F e s).fl fun _ s => .nx s
  | .ret e, s => (evE T F e s).fl fun d s => retD s d
  | .ifs t a b, s => (asB (evE T F t s)).fl fun c s => if c then evS a s else evS b s
  | .whl t b, s => whlL (fun s => asB (evE T F t s)) (evS b) most s
  | .fors tg k a body, s => (evB T F a s).fl fun ds s => (match srcD k s ds with
    | none => .stuck
    | some items => (match hide s (nms ds) with
      | none => .stuck
      | some (s1, ps) => Fl.show ps (forL (bindT tg) (evS body) items s1)))
  | .brk, s => .brk s
  | .cnt, s => .cnt s
  | .raise c a, s => (evA T F a s).fl fun ds s => (match T.exn c with
    | some ns => if ns = [] ∨ ns.length = ds.length then .exc c (ns.zip ds) s else .stuck
    | none => .stuck)
  | .tryS body c x h, s => (match evS body s with
    | .exc c' fs s => if T.sub c' c then suiteF x (evS h) (.exc c' fs) s else .exc c' fs s
    | r => r)
end

/-! ### functions -/
/-- the cells from n on made trees -/
def deepF (rec : D → Option D) (d : D) : Option D := match d with
  | .olst ds => (ds.mapM rec).map .lst
  | .odct kvs => (kvs.mapM fun p => (rec p.2).map fun d => (p.1, d)).map .dct
  | .oobj _ _ => none
  | .hid => none
  | d => rec d
def deepStep (rec : D → Option D) (sto : List D) (n : Nat) (d : D) : Option D := match d with
  | .loc m => if m < n then some (.loc m) else (match sto[m]? with
    | some (.olst ds) => (ds.mapM rec).map .lst
    | some (.odct kvs) => (kvs.mapM fun p => (rec p.2).map fun d => (p.1, d)).map .dct
    | some (.oobj c fs) => (fs.mapM fun p => (deepF rec p.2).map fun d => (p.1, d)).map (.obj c)
    | _ => none)
  | .tup ds => (ds.mapM rec).map .tup
  | .lst ds => (ds.mapM rec).map .lst
  | .dct kvs => (kvs.mapM fun p => (rec p.2).map fun d => (p.1, d)).map .dct
  | .obj c fs => (fs.mapM fun p => (rec p.2).map fun d => (p.1, d)).map (.obj c)
  | .olst ds => (ds.mapM rec).map .lst
  | .odct kvs => (kvs.mapM fun p => (rec p.2).map fun d => (p.1, d)).map .dct
  | .oobj c fs => (fs.mapM fun p => (rec p.2).map fun d => (p.1, d)).map (.obj c)
  | .sref _ => none
  | .fref _ _ => none
  | .hid => none
  | .dead => none
  | .exc _ _ => none
  | d => some d
def deep (sto : List D) (n : Nat) : Nat → D → Option D
  | 0 => fun _ => none
  | k + 1 => deepStep (deep sto n k) sto n
/-- a function's end -/
def finD (g ini : Bool) (sto : List D) (d : D) (s : St) : R D := match ini with
  | true => (match d, (s.env[0]?).join with
    | D.non, some (D.oobj c fs) => (match fs.mapM (fun p : Nat × D => (deep s.sto sto.length 40 p.2).map fun d => (p.1, d)) with
      | some fs => .ok (.oobj c fs) ⟨[], sto⟩
      | none => .stuck)
    | _, _ => .stuck)
  | false => (match g with
    | true => (match deep s.sto sto.length 40 d with
      | some d => .ok d ⟨[], sto⟩
      | none => .stuck)
    | false => .ok d ⟨[], s.sto⟩)
def selfOk (ini : Bool) (s : St) : Bool := match ini, (s.env[0]?).join with
  | false, _ => true
  | true, some (D.oobj _ _) => true
  | _, _ => false
def fin (g ini : Bool) (sto : List D) (r : Fl) : R D := match r with
  | .nx s => finD g ini sto .non s
  | .ret d s => finD g ini sto d s
  | .exc c fs s => (match ini || g with
    | true => if selfOk ini s then (match fs.mapM fun p => (deep s.sto sto.length 40 p.2).map fun d => (p.1, d) with
      | some fs => .exc c fs ⟨[], sto⟩
      | none => .stuck) else .stuck
    | false => .exc c fs ⟨[], s.sto⟩)
  | _ => .stuck
/-- the store that a function sees: a gc function sees none of the old cells -/
def seen (g : Bool) (sto : List D) : List D := match g with
  | true => List.replicate sto.length .dead
  | false => sto
def evFn (T : Tb) : Nat → Fi
  | 0 => fun _ _ _ _ => .stuck
  | k + 1 => fun ini f args sto => match T.fn f with
    | none => .stuck
    | some fd => if args.length = fd.np then fin fd.gc ini sto (evS T (evFn T k) fd.body ⟨args.map some ++ List.replicate (fd.nl - fd.np) none, seen (ini || fd.gc) sto⟩) else .stuck
end TR
end

section
set_option Elab.async false
set_option linter.all false
set_option maxRecDepth 100000
/-! TrRel: how the value trees lie in the abstract heap. -/
namespace TR
open PySem L2

def tx (z : Tx) : Str := ⟨z.toArray⟩
def okT (z : Tx) : Prop := z.length ≤ lim ∧ ∀ n ∈ z, n < 128
/-- the row's part: the written part, the classes' addresses, the attributes' names -/
structure Cz where
  K : PySem.W.Frag
  ct : Nat → Addr
  an : Nat → Str
  ha : Nat → Bool
  hc : Nat → Bool
  hx : Nat → Bool
  hr : Nat → Bool
  hs : Nat → Bool
/-- a class of the row -/
def Cz.hk (c : Cz) (k : Nat) : Bool := c.hc k || c.hx k
/-- an exception object of a class, its dict, at a place: caught, no more raised -/
def ExH (cls : Value) (dx : Option Addr) (a : Addr) : HO := .ext fun h => ∃ (oe : Obj) (vs : Array Value), h.get? a = some oe ∧ Zc cls dx oe ∧ oe.data = .fields vs
def KTup (K : PySem.W.Frag) (a : Addr) (xs : List V) : Prop :=
  ∃ (o : Obj) (its : Array Value) (n : Nat), K.lookup a = some o ∧ o.cls = .type "tuple" ∧ o.data = .seq its n ∧ its.size ≤ sizeLine ∧ Vals xs its.toList
/-- a list of the written part -/
def KLst (K : PySem.W.Frag) (a : Addr) (xs : List V) : Prop :=
  ∃ (o : Obj) (its : Array Value) (n : Nat), K.lookup a = some o ∧ o.cls = .type "list" ∧ o.dict = none ∧ o.data = .seq its n ∧ its.size ≤ sizeLine ∧ Vals xs its.toList
theorem scr_sq {K : PySem.W.Frag} {H : Hp} {p : Prop} {a : Addr} {xs : List V} (h : (p ∧ Rd H a (.lst xs)) ∨ KLst K a xs) : SqL K H a xs := h.imp (fun q => q.2) id
section
variable (c : Cz) (φ : Nm → Addr) (M : Addr → Prop) (H : Hp) (L : Nat)
mutual
def Rep : D → V → Prop
  | .non, v => v = .non
  | .bl b, v => v = .bl b
  | .int i, v => v = .int i
  | .str z, v => v = .str (tx z) ∧ okT z
  | .tup ds, v => ∃ a vs, v = .ref a ∧ ((¬ M a ∧ H a = some (.tup vs)) ∨ KTup c.K a vs) ∧ RepL ds vs
  | .lst ds, v => ∃ a vs, v = .ref a ∧ ¬ M a ∧ H a = some (.lst vs) ∧ RepL ds vs
  | .dct kvs, v => ∃ a us, v = .ref a ∧ ¬ M a ∧ Rd H a (.dK us) ∧ RepK kvs us
  | .obj k fs, v => c.hc k = true ∧ ∃ a dx us, v = .ref a ∧ ¬ M a ∧ H a = some (.ins (c.ct k) dx us) ∧ RepF fs us
  | .loc n, v => n < L ∧ v = .ref (φ (.cell n))
  | .scr ns, v => ∃ a, v = .ref a ∧ ((¬ M a ∧ Rd H a (.lst (ns.map V.int))) ∨ KLst c.K a (ns.map V.int))
  | .olst _, _ => False
  | .odct _, _ => False
  | .oobj _ _, _ => False
  | .sref _, _ => False
  | .fref _ _, _ => False
  | .hid, _ => False
  | .dead, _ => False
  | .exc k fs, v => c.hx k = true ∧ ∃ a dx, v = .ref a ∧ ¬ M a ∧ H a = some (ExH (.ref (c.ct k)) dx a) ∧ (fs = [] → dx = none) ∧ (fs ≠ [] → ∃ dd us, dx = some dd ∧ ¬ M dd ∧ H dd = some (.xd us) ∧ RepX fs us)
def RepL : List D → List V → Prop
  | [], vs => vs = []
  | d :: ds, vs => ∃ v ws, vs = v :: ws ∧ Rep d v ∧ RepL ds ws
def RepK : List (Tx × D) → List (Key × V) → Prop
  | [], vs => vs = []
  | (k, d) :: ds, vs => okT k ∧ ∃ v ws, vs = (.inr (tx k), v) :: ws ∧ Rep d v ∧ RepK ds ws
def RepF : List (Nat × D) → List (Str × V) → Prop
  | [], vs => vs = []
  | (f, d) :: ds, vs => c.ha f = true ∧ ∃ v ws, vs = (c.an f, v) :: ws ∧ Rep d v ∧ RepF ds ws
/-- the fields of an exception -/
def RepX : List (Nat × D) → List (Str × V) → Prop
  | [], _ => True
  | (f, d) :: ds, us => (∃ v, us.lookup (c.an f) = some v ∧ Rep d v) ∧ RepX ds us
end
end

section
variable {c : Cz} {φ φ' : Nm → Addr} {M M' : Addr → Prop} {H H' : Hp} {L L' : Nat}
/-- what a representation leans on stays -/
structure Mv (φ φ' : Nm → Addr) (M M' : Addr → Prop) (H H' : Hp) (L L' : Nat) : Prop where
  at_ : ∀ a o, H a = some o → ¬ M a → H' a = some o ∧ ¬ M' a
  cell : ∀ n, n < L → φ' (.cell n) = φ (.cell n)
  len : L ≤ L'
theorem Mv.rd (m : Mv φ φ' M M' H H' L L') {a : Addr} {u : HO} (hn : ¬ M a) (h : Rd H a u) : Rd H' a u ∧ ¬ M' a := by
  rcases h with h | ⟨o, h⟩
  · exact ⟨.inl (m.at_ a _ h hn).1, (m.at_ a _ h hn).2⟩
  · exact ⟨.inr ⟨o, (m.at_ a _ h hn).1⟩, (m.at_ a _ h hn).2⟩
mutual
theorem Rep.mv (m : Mv φ φ' M M' H H' L L') : ∀ (d : D) (v : V), Rep c φ M H L d v → Rep c φ' M' H' L' d v
  | .non, _, h => h
  | .bl _, _, h => h
  | .int _, _, h => h
  | .str _, _, h => h
  | .tup ds, v, h => by
    obtain ⟨a, vs, e, k, r⟩ := h
    refine ⟨a, vs, e, ?_, RepL.mv m ds vs r⟩
    rcases k with ⟨k1, k2⟩ | k
    · exact .inl ⟨(m.at_ a _ k2 k1).2, (m.at_ a _ k2 k1).1⟩
    · exact .inr k
  | .lst ds, v, h => by
    obtain ⟨a, vs, e, k1, k2, r⟩ := h
    exact ⟨a, vs, e, (m.at_ a _ k2 k1).2, (m.at_ a _ k2 k1).1, RepL.mv m ds vs r⟩
  | .dct kvs, v, h => by
    obtain ⟨a, vs, e, k1, k2, r⟩ := h
    exact ⟨a, vs, e, (m.rd k1 k2).2, (m.rd k1 k2).1, RepK.mv m kvs vs r⟩
  | .obj k fs, v, h => by
    obtain ⟨hk, a, dx, vs, e, k1, k2, r⟩ := h
    exact ⟨hk, a, dx, vs, e, (m.at_ a _ k2 k1).2, (m.at_ a _ k2 k1).1, RepF.mv m fs vs r⟩
  | .loc n, v, h => by
    obtain ⟨h1, h2⟩ := h
    exact ⟨Nat.lt_of_lt_of_le h1 m.len, by rw [h2, m.cell n h1]⟩
  | .scr ns, v, h => by
    obtain ⟨a, e, k⟩ := h
    exact ⟨a, e, k.imp (fun q => ⟨(m.rd q.1 q.2).2, (m.rd q.1 q.2).1⟩) id⟩
  | .olst _, _, h => h
  | .odct _, _, h => h
  | .oobj _ _, _, h => h
  | .sref _, _, h => h
  | .fref _ _, _, h => h
  | .hid, _, h => h
  | .dead, _, h => h
  | .exc k fs, v, h => by
    obtain ⟨hk, a, dx, e, k1, k2, r0, r⟩ := h
    refine ⟨hk, a, dx, e, (m.at_ a _ k2 k1).2, (m.at_ a _ k2 k1).1, r0, fun hn => ?_⟩
    obtain ⟨dd, us, e1, e2, e3, r⟩ := r hn
    exact ⟨dd, us, e1, (m.at_ dd _ e3 e2).2, (m.at_ dd _ e3 e2).1, RepX.mv m fs us r⟩
theorem RepL.mv (m : Mv φ φ' M M' H H' L L') : ∀ (ds : List D) (vs : List V), RepL c φ M H L ds vs → RepL c φ' M' H' L' ds vs
  | [], _, h => h
  | d :: ds, vs, h => by
    obtain ⟨v, ws, e, r, t⟩ := h
    exact ⟨v, ws, e, Rep.mv m d v r, RepL.mv m ds ws t⟩
theorem RepK.mv (m : Mv φ φ' M M' H H' L L') : ∀ (ds : List (Tx × D)) (vs : List (Key × V)), RepK c φ M H L ds vs → RepK c φ' M' H' L' ds vs
  | [], _, h => h
  | (k, d) :: ds, vs, h => by
    obtain ⟨hk, v, ws, e, r, t⟩ := h
    exact ⟨hk, v, ws, e, Rep.mv m d v r, RepK.mv m ds ws t⟩
theorem RepF.mv (m : Mv φ φ' M M' H H' L L') : ∀ (ds : List (Nat × D)) (vs : List (Str × V)), RepF c φ M H L ds vs → RepF c φ' M' H' L' ds vs
  | [], _, h => h
  | (k, d) :: ds, vs, h => by
    obtain ⟨hk, v, ws, e, r, t⟩ := h
    exact ⟨hk, v, ws, e, Rep.mv m d v r, RepF.mv m ds ws t⟩
theorem RepX.mv (m : Mv φ φ' M M' H H' L L') : ∀ (ds : List (Nat × D)) (us : List (Str × V)), RepX c φ M H L ds us → RepX c φ' M' H' L' ds us
  | [], _, h => h
  | (k, d) :: ds, us, h => by
    obtain ⟨⟨v, e, r⟩, t⟩ := h
    exact ⟨⟨v, e, Rep.mv m d v r⟩, RepX.mv m ds us t⟩
end
end

/-! ### lists of values -/
section
variable {c : Cz} {φ : Nm → Addr} {M : Addr → Prop} {H : Hp} {L : Nat}
theorem RepL.length : ∀ {ds : List D} {vs : List V}, RepL c φ M H L ds vs → vs.length = ds.length
  | [], _, h => by
    rw [show _ = [] from h]
    rfl
  | d :: ds, vs, h => by
    obtain ⟨v, ws, rfl, _, t⟩ := h
    rw [List.length_cons, List.length_cons, RepL.length t]
theorem RepL.get : ∀ {ds : List D} {vs : List V} {i : Nat} {d : D}, RepL c φ M H L ds vs → ds[i]? = some d → ∃ v, vs[i]? = some v ∧ Rep c φ M H L d v
  | [], _, i, _, _, e => by simp at e
  | d :: ds, vs, 0, _, h, e => by
    obtain ⟨v, ws, rfl, r, _⟩ := h
    cases e
    exact ⟨v, rfl, r⟩
  | d :: ds, vs, i + 1, _, h, e => by
    obtain ⟨v, ws, rfl, _, t⟩ := h
    exact RepL.get (i := i) t (by simpa using e)
theorem RepL.get' : ∀ {ds : List D} {vs : List V} {i : Nat} {v : V}, RepL c φ M H L ds vs → vs[i]? = some v → ∃ d, ds[i]? = some d ∧ Rep c φ M H L d v
  | [], _, i, _, h, e => by
    rw [show _ = [] from h] at e
    simp at e
  | d :: ds, vs, 0, _, h, e => by
    obtain ⟨v, ws, rfl, r, _⟩ := h
    cases e
    exact ⟨d, rfl, r⟩
  | d :: ds, vs, i + 1, _, h, e => by
    obtain ⟨v, ws, rfl, _, t⟩ := h
    exact RepL.get' (i := i) t (by simpa using e)
theorem RepL.app : ∀ {ds es : List D} {vs ws : List V}, RepL c φ M H L ds vs → RepL c φ M H L es ws → RepL c φ M H L (ds ++ es) (vs ++ ws)
  | [], _, _, _, h, k => by
    rw [show _ = [] from h]
    exact k
  | d :: ds, es, vs, ws, h, k => by
    obtain ⟨v, us, rfl, r, t⟩ := h
    exact ⟨v, us ++ ws, rfl, r, RepL.app t k⟩
theorem RepL.take : ∀ {ds : List D} {vs : List V} (n : Nat), RepL c φ M H L ds vs → RepL c φ M H L (ds.take n) (vs.take n)
  | ds, vs, 0, _ => by simp [RepL]
  | [], _, n + 1, h => by
    rw [show _ = [] from h]
    simp [RepL]
  | d :: ds, vs, n + 1, h => by
    obtain ⟨v, us, rfl, r, t⟩ := h
    exact ⟨v, us.take n, rfl, r, RepL.take n t⟩
theorem RepL.drop : ∀ {ds : List D} {vs : List V} (n : Nat), RepL c φ M H L ds vs → RepL c φ M H L (ds.drop n) (vs.drop n)
  | ds, vs, 0, h => h
  | [], _, n + 1, h => by
    rw [show _ = [] from h]
    simp [RepL]
  | d :: ds, vs, n + 1, h => by
    obtain ⟨v, us, rfl, r, t⟩ := h
    exact RepL.drop n t
theorem RepL.one {d : D} {v : V} (h : Rep c φ M H L d v) : RepL c φ M H L [d] [v] := ⟨v, [], rfl, h, rfl⟩
theorem RepL.set : ∀ {ds : List D} {vs : List V} {d : D} {v : V} (i : Nat), RepL c φ M H L ds vs → Rep c φ M H L d v → RepL c φ M H L (ds.set i d) (vs.set i v)
  | [], _, _, _, i, h, _ => by
    rw [show _ = [] from h]
    simp [RepL]
  | d :: ds, vs, _, _, 0, h, k => by
    obtain ⟨v, us, rfl, r, t⟩ := h
    exact ⟨_, us, rfl, k, t⟩
  | d :: ds, vs, _, _, i + 1, h, k => by
    obtain ⟨v, us, rfl, r, t⟩ := h
    exact ⟨v, us.set i _, rfl, r, RepL.set i t k⟩
theorem RepL.rev : ∀ {ds : List D} {vs : List V}, RepL c φ M H L ds vs → RepL c φ M H L ds.reverse vs.reverse
  | [], _, h => by
    rw [show _ = [] from h]
    simp [RepL]
  | d :: ds, vs, h => by
    obtain ⟨v, us, rfl, r, t⟩ := h
    rw [List.reverse_cons, List.reverse_cons]
    exact RepL.app (RepL.rev t) (RepL.one r)
theorem RepL.reps {ds : List D} {vs : List V} (h : RepL c φ M H L ds vs) : ∀ k : Nat, RepL c φ M H L (List.replicate k ds).flatten (List.replicate k vs).flatten
  | 0 => rfl
  | k + 1 => by
    rw [List.replicate_succ, List.replicate_succ, List.flatten_cons, List.flatten_cons]
    exact RepL.app h (RepL.reps h k)
theorem RepL.of_map {α : Type} {f : α → D} {g : α → V} (h : ∀ x, Rep c φ M H L (f x) (g x)) : ∀ xs : List α, RepL c φ M H L (xs.map f) (xs.map g)
  | [] => rfl
  | x :: xs => ⟨g x, xs.map g, rfl, h x, RepL.of_map h xs⟩
theorem RepL.intsD : ∀ {ds : List D} {vs : List V} {ns : List Int}, RepL c φ M H L ds vs → intsD ds = some ns → vs = ns.map V.int ∧ ds = ns.map D.int
  | [], _, ns, h, e => by
    cases e
    exact ⟨h, rfl⟩
  | d :: ds, vs, ns, h, e => by
    obtain ⟨v, us, rfl, r, t⟩ := h
    cases d with
    | int i =>
      simp only [TR.intsD, Option.map_eq_some_iff] at e
      obtain ⟨ms, e1, rfl⟩ := e
      obtain ⟨k1, k2⟩ := RepL.intsD t e1
      have r1 : v = V.int i := r
      exact ⟨by rw [r1, k1]; rfl, by rw [k2]; rfl⟩
    | _ => simp [TR.intsD] at e
theorem RepL.strsD : ∀ {ds : List D} {vs : List V} {ns : List Tx}, RepL c φ M H L ds vs → strsD ds = some ns → vs = ns.map (fun z => V.str (tx z)) ∧ ∀ z ∈ ns, okT z
  | [], _, ns, h, e => by
    cases e
    exact ⟨h, fun z hz => by cases hz⟩
  | d :: ds, vs, ns, h, e => by
    obtain ⟨v, us, rfl, r, t⟩ := h
    cases d with
    | str i =>
      simp only [TR.strsD, Option.map_eq_some_iff] at e
      obtain ⟨ms, e1, rfl⟩ := e
      obtain ⟨k1, k2⟩ := RepL.strsD t e1
      obtain ⟨r1, r2⟩ := r
      refine ⟨by rw [r1, k1]; rfl, fun z hz => ?_⟩
      rcases List.mem_cons.mp hz with rfl | hz
      · exact r2
      · exact k2 z hz
    | _ => simp [TR.strsD] at e
end

theorem RepX.get {c : Cz} {φ : Nm → Addr} {M : Addr → Prop} {H : Hp} {L : Nat} {f : Nat} {d : D} {us : List (Str × V)} : ∀ {fs : List (Nat × D)}, RepX c φ M H L fs us → fs.lookup f = some d → ∃ v, us.lookup (c.an f) = some v ∧ Rep c φ M H L d v
  | [], _, h => by cases h
  | (g, e) :: fs, r, h => by
    rw [List.lookup_cons] at h
    split at h
    · rename_i q
      cases h
      have := eq_of_beq q
      subst this
      exact r.1
    · exact RepX.get r.2 h
/-! ### owned things -/
section
variable (c : Cz) (φ : Nm → Addr) (M : Addr → Prop) (H : Hp) (L : Nat)
/-- the fields of an object at nm: a field's own thing lies where φ tells -/
def RepO (nm : Nm) : List (Nat × D) → List (Str × V) → Prop
  | [], vs => vs = []
  | (f, d) :: ds, vs => c.ha f = true ∧ ∃ v ws, vs = (c.an f, v) :: ws ∧ (if owned d then ∃ n, nm = .cell n ∧ v = .ref (φ (.fld n f)) else Rep c φ M H L d v) ∧ RepO nm ds ws
def ContAt (nm : Nm) (d : D) (a : Addr) : Prop := match d with
  | .olst ds => ∃ vs, H a = some (.lst vs) ∧ RepL c φ M H L ds vs
  | .odct kvs => ∃ us, H a = some (.dK us) ∧ RepK c φ M H L kvs us
  | .oobj k fs => c.hc k = true ∧ (fs.map (·.1)).Nodup ∧ ∃ dx us, H a = some (.ins (c.ct k) dx us) ∧ RepO c φ M H L nm fs us
  | _ => True
end
def Act (s : St) (nm : Nm) (d : D) : Prop := own s nm = some d ∧ d ≠ .hid
/-- what may change -/
def Ms (φ : Nm → Addr) (Mo : Addr → Prop) (s : St) (a : Addr) : Prop := Mo a ∨ ∃ nm d, Act s nm d ∧ φ nm = a
structure Rel (c : Cz) (φ : Nm → Addr) (Mo : Addr → Prop) (s : St) (H : Hp) : Prop where
  inj : ∀ nm nm' d d', Act s nm d → Act s nm' d' → φ nm = φ nm' → nm = nm'
  out : ∀ nm d, Act s nm d → ¬ Mo (φ nm)
  cnt : ∀ nm d, Act s nm d → ContAt c φ (Ms φ Mo s) H s.sto.length nm d (φ nm)
  dom : ∀ a, Mo a → H a ≠ none
structure RelE (c : Cz) (φ : Nm → Addr) (Mo : Addr → Prop) (s : St) (σ : L2.St) (H : Hp) : Prop extends Rel c φ Mo s H where
  len : σ.length = s.env.length
  slots : ∀ (i : Nat) (d : D), s.env[i]? = some (some d) → ∃ v, σ[i]? = some (some v) ∧ (if owned d then v = .ref (φ (.slot i)) else Rep c φ (Ms φ Mo s) H s.sto.length d v)
/-- a value that an expression gives -/
def VRep (c : Cz) (φ : Nm → Addr) (Mo : Addr → Prop) (s : St) (H : Hp) (d : D) (v : V) : Prop := match d with
  | .olst _ => ∃ a, v = .ref a ∧ Mo a ∧ ContAt c φ (Ms φ Mo s) H s.sto.length (.slot 0) d a
  | .odct _ => ∃ a, v = .ref a ∧ Mo a ∧ ContAt c φ (Ms φ Mo s) H s.sto.length (.slot 0) d a
  | .oobj _ _ => ∃ a, v = .ref a ∧ Mo a ∧ ContAt c φ (Ms φ Mo s) H s.sto.length (.slot 0) d a
  | .sref i => v = .ref (φ (.slot i))
  | .fref n f => v = .ref (φ (.fld n f))
  | d => Rep c φ (Ms φ Mo s) H s.sto.length d v
def temp : D → Bool
  | .olst _ => true | .odct _ => true | .oobj _ _ => true | _ => false
/-- what a step leaves as it is -/
structure Fr (φ : Nm → Addr) (Mo : Addr → Prop) (s : St) (H : Hp) (φ' : Nm → Addr) (Mo' : Addr → Prop) (s' : St) (H' : Hp) : Prop where
  imm : ∀ a o, H a = some o → ¬ Ms φ Mo s a → H' a = some o
  new : ∀ a, Ms φ' Mo' s' a → Ms φ Mo s a ∨ H a = none
  outer : ∀ a, Mo a → Mo' a ∧ ∀ o, H a = some o → H' a = some o
  fresh : ∀ a, Mo' a → Mo a ∨ H a = none
  cell : ∀ n, n < s.sto.length → φ' (.cell n) = φ (.cell n)
  len : s.sto.length ≤ s'.sto.length
  dom : ∀ a, H a ≠ none → H' a ≠ none
  hid : ∀ nm, own s' nm = some .hid → own s nm = some .hid ∧ φ' nm = φ nm
  slot : ∀ i d, Act s' (.slot i) d → ((∃ d0, Act s (.slot i) d0) ∧ φ' (.slot i) = φ (.slot i)) ∨ H (φ' (.slot i)) = none
  s0 : φ' (.slot 0) = φ (.slot 0)
section
variable {c : Cz} {φ φ' φ'' : Nm → Addr} {Mo Mo' Mo'' : Addr → Prop} {s s' s'' : St} {H H' H'' : Hp}
theorem Fr.refl : Fr φ Mo s H φ Mo s H :=
  ⟨fun _ _ h _ => h, fun _ h => .inl h, fun _ h => ⟨h, fun _ h => h⟩, fun _ h => .inl h, fun _ _ => rfl, Nat.le_refl _, fun _ h => h, fun _ h => ⟨h, rfl⟩, fun _ d h => .inl ⟨⟨d, h⟩, rfl⟩, rfl⟩
theorem none_back (dom : ∀ a, H a ≠ none → H' a ≠ none) {a : Addr} (h : H' a = none) : H a = none := by
  cases e : H a with
  | none => rfl
  | some o => exact absurd h (dom a (by rw [e]; exact fun z => by cases z))
theorem Fr.trans (p : Fr φ Mo s H φ' Mo' s' H') (q : Fr φ' Mo' s' H' φ'' Mo'' s'' H'') : Fr φ Mo s H φ'' Mo'' s'' H'' where
  imm := fun a o h hn => q.imm a o (p.imm a o h hn) fun z => (p.new a z).elim hn fun e => by
    rw [h] at e
    cases e
  new := fun a h => (q.new a h).elim (p.new a) fun e => .inr (none_back p.dom e)
  outer := fun a h => ⟨(q.outer a (p.outer a h).1).1, fun o e => (q.outer a (p.outer a h).1).2 o ((p.outer a h).2 o e)⟩
  fresh := fun a h => (q.fresh a h).elim (p.fresh a) fun e => .inr (none_back p.dom e)
  cell := fun n h => (q.cell n (Nat.lt_of_lt_of_le h p.len)).trans (p.cell n h)
  len := Nat.le_trans p.len q.len
  dom := fun a h => q.dom a (p.dom a h)
  hid := fun nm h => ⟨(p.hid nm (q.hid nm h).1).1, ((q.hid nm h).2).trans (p.hid nm (q.hid nm h).1).2⟩
  slot := fun i d h => by
    rcases q.slot i d h with ⟨⟨d0, h0⟩, e⟩ | e
    · rcases p.slot i d0 h0 with ⟨h1, e1⟩ | e1
      · exact .inl ⟨h1, e.trans e1⟩
      · exact .inr (by rw [e]; exact e1)
    · exact .inr (none_back p.dom e)
  s0 := q.s0.trans p.s0
theorem Fr.mv (p : Fr φ Mo s H φ' Mo' s' H') : Mv φ φ' (Ms φ Mo s) (Ms φ' Mo' s') H H' s.sto.length s'.sto.length :=
  ⟨fun a o h hn => ⟨p.imm a o h hn, fun z => (p.new a z).elim hn fun e => by
    rw [h] at e
    cases e⟩, p.cell, p.len⟩
end
end TR
end

section
set_option Elab.async false
set_option linter.all false
set_option maxRecDepth 100000
/-! TrPost: what a step leaves, how steps follow one another, new things. -/
namespace TR
open PySem L2

theorem own_iff {s : St} {nm : Nm} {d : D} : own s nm = some d ↔ raw s nm = some d ∧ owned d = true := by
  unfold own
  exact Option.filter_eq_some_iff
theorem own_owned {s : St} {nm : Nm} {d : D} (h : own s nm = some d) : owned d = true := (own_iff.mp h).2

section
variable {c : Cz} {φ φ' φ'' : Nm → Addr} {Mo Mo' Mo'' : Addr → Prop} {s s' s'' : St} {σ : L2.St} {H H' H'' : Hp}
theorem Rel.domM (r : Rel c φ Mo s H) {a : Addr} (h : Ms φ Mo s a) : H a ≠ none := by
  rcases h with h | ⟨nm, d, hd, rfl⟩
  · exact r.dom a h
  · have k := r.cnt nm d hd
    have ho := own_owned hd.1
    cases d with
    | olst ds =>
      obtain ⟨vs, e, _⟩ := k
      rw [e]
      exact fun z => by cases z
    | odct ds =>
      obtain ⟨vs, e, _⟩ := k
      rw [e]
      exact fun z => by cases z
    | oobj k' ds =>
      obtain ⟨_, _, dx, vs, e, _⟩ := k
      rw [e]
      exact fun z => by cases z
    | hid => exact absurd rfl hd.2
    | _ => cases ho
theorem Rel.notM (r : Rel c φ Mo s H) {a : Addr} (h : H a = none) : ¬ Ms φ Mo s a := fun z => r.domM z h

/-- fields' lists of an object in the same way -/
theorem RepO.mv {M M' : Addr → Prop} {L L' : Nat} (m : Mv φ φ' M M' H H' L L') {nm : Nm} : ∀ (ds : List (Nat × D)) (vs : List (Str × V)), (∀ n f d, nm = .cell n → (f, d) ∈ ds → owned d = true → φ' (.fld n f) = φ (.fld n f)) → RepO c φ M H L nm ds vs → RepO c φ' M' H' L' nm ds vs
  | [], _, _, h => h
  | (k, d) :: ds, vs, hf, h => by
    obtain ⟨hk, v, ws, e, r, t⟩ := h
    refine ⟨hk, v, ws, e, ?_, RepO.mv m ds ws (fun n f d' hn hl ho => hf n f d' hn (List.mem_cons_of_mem _ hl) ho) t⟩
    by_cases ho : owned d = true
    · rw [if_pos ho] at r ⊢
      obtain ⟨n, hn, hv⟩ := r
      exact ⟨n, hn, by rw [hv, hf n k d hn List.mem_cons_self ho]⟩
    · rw [if_neg ho] at r ⊢
      exact Rep.mv m d v r
theorem ContAt.mv {M M' : Addr → Prop} {L L' : Nat} (m : Mv φ φ' M M' H H' L L') {nm : Nm} {d : D} {a : Addr} (ha : ∀ o, H a = some o → H' a = some o)
    (hf : ∀ n k fs f d', nm = .cell n → d = .oobj k fs → (f, d') ∈ fs → owned d' = true → φ' (.fld n f) = φ (.fld n f)) (h : ContAt c φ M H L nm d a) : ContAt c φ' M' H' L' nm d a := by
  cases d with
  | olst ds =>
    obtain ⟨vs, e, r⟩ := h
    exact ⟨vs, ha _ e, RepL.mv m ds vs r⟩
  | odct ds =>
    obtain ⟨vs, e, r⟩ := h
    exact ⟨vs, ha _ e, RepK.mv m ds vs r⟩
  | oobj k ds =>
    obtain ⟨hk, nd, dx, vs, e, r⟩ := h
    exact ⟨hk, nd, dx, vs, ha _ e, RepO.mv m ds vs (fun n f d' hn hl ho => hf n k ds f d' hn rfl hl ho) r⟩
  | _ => trivial
theorem VRep.mv (m : Mv φ φ' (Ms φ Mo s) (Ms φ' Mo' s') H H' s.sto.length s'.sto.length) (ho : ∀ a, Mo a → Mo' a ∧ ∀ o, H a = some o → H' a = some o) {d : D} {v : V}
    (hs : ∀ i, d = .sref i → φ' (.slot i) = φ (.slot i)) (hf : ∀ n f, d = .fref n f → φ' (.fld n f) = φ (.fld n f)) (h : VRep c φ Mo s H d v) : VRep c φ' Mo' s' H' d v := by
  cases d with
  | olst ds =>
    obtain ⟨a, e, k, r⟩ := h
    exact ⟨a, e, (ho a k).1, r.mv m (ho a k).2 (fun n k fs f d' hn _ _ _ => by cases hn)⟩
  | odct ds =>
    obtain ⟨a, e, k, r⟩ := h
    exact ⟨a, e, (ho a k).1, r.mv m (ho a k).2 (fun n k fs f d' hn _ _ _ => by cases hn)⟩
  | oobj k ds =>
    obtain ⟨a, e, k, r⟩ := h
    exact ⟨a, e, (ho a k).1, r.mv m (ho a k).2 (fun n k fs f d' hn _ _ _ => by cases hn)⟩
  | sref i => exact Eq.trans (show v = _ from h) (by rw [hs i rfl])
  | fref n f => exact Eq.trans (show v = _ from h) (by rw [hf n f rfl])
  | hid => exact h
  | dead => exact h
  | non => exact h
  | bl b => exact h
  | int b => exact h
  | exc k fs => exact Rep.mv m _ _ h
  | str z => exact h
  | tup ds => exact Rep.mv m _ _ h
  | lst ds => exact Rep.mv m _ _ h
  | dct ds => exact Rep.mv m _ _ h
  | obj k ds => exact Rep.mv m _ _ h
  | loc n => exact Rep.mv m _ _ h
  | scr ns => exact Rep.mv m _ _ h

/-- a heap that grows: all that stood stays -/
structure Grow (Mo Mo' : Addr → Prop) (H H' : Hp) : Prop where
  keep : ∀ a o, H a = some o → H' a = some o
  more : ∀ a, Mo a → Mo' a
  new : ∀ a, Mo' a → Mo a ∨ H a = none
  dom : ∀ a, Mo' a → Mo a ∨ H' a ≠ none
theorem Grow.ms (g : Grow Mo Mo' H H') {a : Addr} (h : Ms φ Mo' s a) : Ms φ Mo s a ∨ H a = none := by
  rcases h with h | h
  · exact (g.new a h).imp .inl id
  · exact .inl (.inr h)
theorem Grow.hdom (g : Grow Mo Mo' H H') : ∀ a, H a ≠ none → H' a ≠ none := fun a h => by
  cases e : H a with
  | none => exact absurd e h
  | some o =>
    rw [g.keep a o e]
    exact fun z => by cases z
theorem Grow.fr (g : Grow Mo Mo' H H') : Fr φ Mo s H φ Mo' s H' :=
  ⟨fun a o h _ => g.keep a o h, fun a h => g.ms h, fun a h => ⟨g.more a h, g.keep a⟩, g.new, fun _ _ => rfl, Nat.le_refl _, g.hdom, fun _ h => ⟨h, rfl⟩, fun _ d h => .inl ⟨⟨d, h⟩, rfl⟩, rfl⟩
theorem Rel.grow (r : Rel c φ Mo s H) (g : Grow Mo Mo' H H') : Rel c φ Mo' s H' :=
  ⟨r.inj, fun nm d h z => (g.new _ z).elim (r.out nm d h) fun e => r.domM (.inr ⟨nm, d, h, rfl⟩) e,
    fun nm d h => (r.cnt nm d h).mv (g.fr (φ := φ) (s := s)).mv (g.keep _) fun _ _ _ _ _ _ _ _ _ => rfl,
    fun a h => (g.dom a h).elim (fun k => g.hdom a (r.dom a k)) id⟩
theorem RelE.grow (r : RelE c φ Mo s σ H) (g : Grow Mo Mo' H H') : RelE c φ Mo' s σ H' :=
  { r.toRel.grow g with
    len := r.len
    slots := fun i d h => by
      obtain ⟨v, e, k⟩ := r.slots i d h
      refine ⟨v, e, ?_⟩
      by_cases ho : owned d = true
      · rw [if_pos ho] at k ⊢
        exact k
      · rw [if_neg ho] at k ⊢
        exact Rep.mv (g.fr (φ := φ) (s := s)).mv _ _ k }

/-! ### what an expression leaves -/
structure PostE (c : Cz) (calm : Bool) (σ : L2.St) (φ : Nm → Addr) (Mo : Addr → Prop) (s : St) (H : Hp) (φ' : Nm → Addr) (Mo' : Addr → Prop) (s' : St) (H' : Hp) : Prop where
  rel : RelE c φ' Mo' s' σ H'
  fr : Fr φ Mo s H φ' Mo' s' H'
  slots : ∀ i, φ' (.slot i) = φ (.slot i)
  fld : calm = true → ∀ n f, φ' (.fld n f) = φ (.fld n f)
variable {cl cl1 cl2 : Bool}
theorem PostE.refl (r : RelE c φ Mo s σ H) : PostE c cl σ φ Mo s H φ Mo s H := ⟨r, Fr.refl, fun _ => rfl, fun _ _ _ => rfl⟩
theorem PostE.grow (r : RelE c φ Mo s σ H) (g : Grow Mo Mo' H H') : PostE c cl σ φ Mo s H φ Mo' s H' := ⟨r.grow g, g.fr, fun _ => rfl, fun _ _ _ => rfl⟩
theorem PostE.trans (p : PostE c cl1 σ φ Mo s H φ' Mo' s' H') (q : PostE c cl2 σ φ' Mo' s' H' φ'' Mo'' s'' H'') (h : cl = true → cl1 = true ∧ cl2 = true) : PostE c cl σ φ Mo s H φ'' Mo'' s'' H'' :=
  ⟨q.rel, p.fr.trans q.fr, fun i => (q.slots i).trans (p.slots i), fun e n f => (q.fld (h e).2 n f).trans (p.fld (h e).1 n f)⟩
theorem PostE.weak (p : PostE c cl1 σ φ Mo s H φ' Mo' s' H') (h : cl = true → cl1 = true) : PostE c cl σ φ Mo s H φ' Mo' s' H' := ⟨p.rel, p.fr, p.slots, fun e => p.fld (h e)⟩
/-- a pending value over a step -/
theorem PostE.vrep (p : PostE c cl σ φ Mo s H φ' Mo' s' H') {d : D} {v : V} (hf : isF d = true → cl = true) (h : VRep c φ Mo s H d v) : VRep c φ' Mo' s' H' d v :=
  h.mv p.fr.mv p.fr.outer (fun i _ => p.slots i) fun n f e => p.fld (hf (by rw [e]; rfl)) n f
def freshV (H : Hp) (d : D) (v : V) : Prop := temp d = true → ∀ a, v = .ref a → H a = none
theorem freshV.back {d : D} {v : V} (h : freshV H' d v) (dom : ∀ a, H a ≠ none → H' a ≠ none) : freshV H d v := fun e a q => none_back dom (h e a q)
/-- the fields of an exception -/
def ExcR (c : Cz) (φ : Nm → Addr) (Mo : Addr → Prop) (s : St) (H : Hp) (k : Nat) (fs : List (Nat × D)) (cls : Value) (dx : Option Addr) : Prop :=
  (cls = .ref (c.ct k) ∧ c.hx k = true) ∧ (fs = [] → dx = none) ∧ (fs ≠ [] → ∃ dd us, dx = some dd ∧ ¬ Ms φ Mo s dd ∧ H dd = some (.xd us) ∧ RepX c φ (Ms φ Mo s) H s.sto.length fs us)
abbrev Wx := Value → Option Addr → L2.St → Hp → Prop
def OutE (c : Cz) (W : Wx) (cl : Bool) (σ : L2.St) (φ : Nm → Addr) (Mo : Addr → Prop) (s : St) (H : Hp) (r : R D) (Q : VK) : Prop := match r with
  | .ok d s' => ∀ v φ' Mo' H', PostE c cl σ φ Mo s H φ' Mo' s' H' → VRep c φ' Mo' s' H' d v → freshV H d v → Q v H'
  | .exc k fs s' => ∀ cls dx φ' Mo' H', PostE c cl σ φ Mo s H φ' Mo' s' H' → ExcR c φ' Mo' s' H' k fs cls dx → W cls dx σ H'
  | .stuck => False
/-- an expression's reading by the evaluator -/
def tE (c : Cz) (W : Wx) (cl : Bool) (r : St → R D) : TE := fun σ H Q => ∃ φ Mo s, RelE c φ Mo s σ H ∧ OutE c W cl σ φ Mo s H (r s) Q
def OutT (c : Cz) (W : Wx) (cl : Bool) (σ : L2.St) (φ : Nm → Addr) (Mo : Addr → Prop) (s : St) (H : Hp) (r : R Bool) (Q : Bool → Hp → Prop) : Prop := match r with
  | .ok b s' => ∀ φ' Mo' H', PostE c cl σ φ Mo s H φ' Mo' s' H' → Q b H'
  | .exc k fs s' => ∀ cls dx φ' Mo' H', PostE c cl σ φ Mo s H φ' Mo' s' H' → ExcR c φ' Mo' s' H' k fs cls dx → W cls dx σ H'
  | .stuck => False
def tT (c : Cz) (W : Wx) (cl : Bool) (r : St → R Bool) : TT := fun σ H Q => ∃ φ Mo s, RelE c φ Mo s σ H ∧ OutT c W cl σ φ Mo s H (r s) Q
/-- kept values, argument by argument -/
def OutA (c : Cz) (W : Wx) (cl : Bool) (σ : L2.St) (φ : Nm → Addr) (Mo : Addr → Prop) (s : St) (H : Hp) (r : R (List D)) (Q : List V → Hp → Prop) : Prop := match r with
  | .ok ds s' => ∀ vs φ' Mo' H', PostE c cl σ φ Mo s H φ' Mo' s' H' → RepL c φ' (Ms φ' Mo' s') H' s'.sto.length ds vs → Q vs H'
  | .exc k fs s' => ∀ cls dx φ' Mo' H', PostE c cl σ φ Mo s H φ' Mo' s' H' → ExcR c φ' Mo' s' H' k fs cls dx → W cls dx σ H'
  | .stuck => False
def tA (c : Cz) (W : Wx) (cl : Bool) (r : St → R (List D)) : TA := fun σ H Q => ∃ φ Mo s, RelE c φ Mo s σ H ∧ OutA c W cl σ φ Mo s H (r s) Q
/-- values as they are -/
def VRepL (c : Cz) (φ : Nm → Addr) (Mo : Addr → Prop) (s : St) (H : Hp) : List D → List V → Prop
  | [], vs => vs = []
  | d :: ds, vs => ∃ v ws, vs = v :: ws ∧ VRep c φ Mo s H d v ∧ VRepL c φ Mo s H ds ws
def freshL (H : Hp) : List D → List V → Prop
  | d :: ds, v :: vs => freshV H d v ∧ freshL H ds vs
  | _, _ => True
def OutB (c : Cz) (W : Wx) (cl : Bool) (σ : L2.St) (φ : Nm → Addr) (Mo : Addr → Prop) (s : St) (H : Hp) (r : R (List D)) (Q : List V → Hp → Prop) : Prop := match r with
  | .ok ds s' => ∀ vs φ' Mo' H', PostE c cl σ φ Mo s H φ' Mo' s' H' → VRepL c φ' Mo' s' H' ds vs → freshL H ds vs → Q vs H'
  | .exc k fs s' => ∀ cls dx φ' Mo' H', PostE c cl σ φ Mo s H φ' Mo' s' H' → ExcR c φ' Mo' s' H' k fs cls dx → W cls dx σ H'
  | .stuck => False
def tB' (c : Cz) (W : Wx) (cl : Bool) (r : St → R (List D)) : TA := fun σ H Q => ∃ φ Mo s, RelE c φ Mo s σ H ∧ OutB c W cl σ φ Mo s H (r s) Q

/-! ### one step behind another -/
/-- what is wanted of a whole, Fp, lets exceptions out as told and is never stuck -/
structure Fin' {β : Type} (c : Cz) (W : Wx) (cl : Bool) (σ : L2.St) (φ : Nm → Addr) (Mo : Addr → Prop) (s : St) (H : Hp) (Fp : R β → Prop) : Prop where
  exc : ∀ k fs s', Fp (.exc k fs s') → ∀ cls dx φ' Mo' H', PostE c cl σ φ Mo s H φ' Mo' s' H' → ExcR c φ' Mo' s' H' k fs cls dx → W cls dx σ H'
  ns : ¬ Fp .stuck
variable {W : Wx} {φ0 φ1 : Nm → Addr} {Mo0 Mo1 : Addr → Prop} {s0 s1 : St} {H0 H1 : Hp}
theorem finE {Q : VK} : Fin' c W cl σ φ Mo s H (fun r => OutE c W cl σ φ Mo s H r Q) := ⟨fun _ _ _ h => h, fun h => h⟩
theorem finT {Q : Bool → Hp → Prop} : Fin' c W cl σ φ Mo s H (fun r => OutT c W cl σ φ Mo s H r Q) := ⟨fun _ _ _ h => h, fun h => h⟩
theorem finA {Q : List V → Hp → Prop} : Fin' c W cl σ φ Mo s H (fun r => OutA c W cl σ φ Mo s H r Q) := ⟨fun _ _ _ h => h, fun h => h⟩
theorem finB {Q : List V → Hp → Prop} : Fin' c W cl σ φ Mo s H (fun r => OutB c W cl σ φ Mo s H r Q) := ⟨fun _ _ _ h => h, fun h => h⟩
theorem tE_of {β : Type} {Fp : R β → Prop} {r : St → R D} {k : D → St → R β} {Q : VK} (fin : Fin' c W cl σ φ0 Mo0 s0 H0 Fp) (P : PostE c cl1 σ φ0 Mo0 s0 H0 φ1 Mo1 s1 H1) (hc : cl = true → cl1 = true ∧ cl2 = true)
    (h : Fp ((r s1).bind k)) (q : ∀ d v φ2 Mo2 s2 H2, PostE c cl2 σ φ1 Mo1 s1 H1 φ2 Mo2 s2 H2 → VRep c φ2 Mo2 s2 H2 d v → freshV H1 d v → Fp (k d s2) → Q v H2) : tE c W cl2 r σ H1 Q := by
  refine ⟨φ1, Mo1, s1, P.rel, ?_⟩
  cases e : r s1 with
  | ok d s2 =>
    rw [e] at h
    exact fun v φ2 Mo2 H2 P2 vr fr => q d v φ2 Mo2 s2 H2 P2 vr fr h
  | exc k' fs s2 =>
    rw [e] at h
    exact fun cls dx φ2 Mo2 H2 P2 x => fin.exc k' fs s2 h cls dx φ2 Mo2 H2 (P.trans P2 hc) x
  | stuck =>
    rw [e] at h
    exact (fin.ns h).elim
theorem tT_of {β : Type} {Fp : R β → Prop} {r : St → R Bool} {k : Bool → St → R β} {Q : Bool → Hp → Prop} (fin : Fin' c W cl σ φ0 Mo0 s0 H0 Fp) (P : PostE c cl1 σ φ0 Mo0 s0 H0 φ1 Mo1 s1 H1) (hc : cl = true → cl1 = true ∧ cl2 = true)
    (h : Fp ((r s1).bind k)) (q : ∀ b φ2 Mo2 s2 H2, PostE c cl2 σ φ1 Mo1 s1 H1 φ2 Mo2 s2 H2 → Fp (k b s2) → Q b H2) : tT c W cl2 r σ H1 Q := by
  refine ⟨φ1, Mo1, s1, P.rel, ?_⟩
  cases e : r s1 with
  | ok d s2 =>
    rw [e] at h
    exact fun φ2 Mo2 H2 P2 => q d φ2 Mo2 s2 H2 P2 h
  | exc k' fs s2 =>
    rw [e] at h
    exact fun cls dx φ2 Mo2 H2 P2 x => fin.exc k' fs s2 h cls dx φ2 Mo2 H2 (P.trans P2 hc) x
  | stuck =>
    rw [e] at h
    exact (fin.ns h).elim
theorem tA_of {β : Type} {Fp : R β → Prop} {r : St → R (List D)} {k : List D → St → R β} {Q : List V → Hp → Prop} (fin : Fin' c W cl σ φ0 Mo0 s0 H0 Fp) (P : PostE c cl1 σ φ0 Mo0 s0 H0 φ1 Mo1 s1 H1) (hc : cl = true → cl1 = true ∧ cl2 = true)
    (h : Fp ((r s1).bind k)) (q : ∀ ds vs φ2 Mo2 s2 H2, PostE c cl2 σ φ1 Mo1 s1 H1 φ2 Mo2 s2 H2 → RepL c φ2 (Ms φ2 Mo2 s2) H2 s2.sto.length ds vs → Fp (k ds s2) → Q vs H2) : tA c W cl2 r σ H1 Q := by
  refine ⟨φ1, Mo1, s1, P.rel, ?_⟩
  cases e : r s1 with
  | ok d s2 =>
    rw [e] at h
    exact fun vs φ2 Mo2 H2 P2 vr => q d vs φ2 Mo2 s2 H2 P2 vr h
  | exc k' fs s2 =>
    rw [e] at h
    exact fun cls dx φ2 Mo2 H2 P2 x => fin.exc k' fs s2 h cls dx φ2 Mo2 H2 (P.trans P2 hc) x
  | stuck =>
    rw [e] at h
    exact (fin.ns h).elim
theorem tB_of {β : Type} {Fp : R β → Prop} {r : St → R (List D)} {k : List D → St → R β} {Q : List V → Hp → Prop} (fin : Fin' c W cl σ φ0 Mo0 s0 H0 Fp) (P : PostE c cl1 σ φ0 Mo0 s0 H0 φ1 Mo1 s1 H1) (hc : cl = true → cl1 = true ∧ cl2 = true)
    (h : Fp ((r s1).bind k)) (q : ∀ ds vs φ2 Mo2 s2 H2, PostE c cl2 σ φ1 Mo1 s1 H1 φ2 Mo2 s2 H2 → VRepL c φ2 Mo2 s2 H2 ds vs → freshL H1 ds vs → Fp (k ds s2) → Q vs H2) : tB' c W cl2 r σ H1 Q := by
  refine ⟨φ1, Mo1, s1, P.rel, ?_⟩
  cases e : r s1 with
  | ok d s2 =>
    rw [e] at h
    exact fun vs φ2 Mo2 H2 P2 vr fr => q d vs φ2 Mo2 s2 H2 P2 vr fr h
  | exc k' fs s2 =>
    rw [e] at h
    exact fun cls dx φ2 Mo2 H2 P2 x => fin.exc k' fs s2 h cls dx φ2 Mo2 H2 (P.trans P2 hc) x
  | stuck =>
    rw [e] at h
    exact (fin.ns h).elim
theorem PE.mono {X : Cx} {e : PySem.Expr} {t t' : TE} (h : PE X e t) (m : ∀ σ H Q, t' σ H Q → t σ H Q) : PE X e t' := ⟨fun pins s σ H Q I q => h.run pins s σ H Q I (m σ H Q q)⟩
theorem PT.mono {X : Cx} {e : PySem.Expr} {t t' : TT} (h : PT X e t) (m : ∀ σ H Q, t' σ H Q → t σ H Q) : PT X e t' := ⟨fun pins s σ H Q I q => h.run pins s σ H Q I (m σ H Q q)⟩
theorem PW.mono {X : Cx} {e : PySem.Expr} {t t' : TT} (h : PW X e t) (m : ∀ σ H Q, t' σ H Q → t σ H Q) : PW X e t' := ⟨fun wh pins s σ H Q I q => h.run wh pins s σ H Q I (m σ H Q q)⟩
theorem PA.mono {X : Cx} {e : List PySem.Expr} {t t' : TA} (h : PA X e t) (m : ∀ σ H Q, t' σ H Q → t σ H Q) : PA X e t' := ⟨fun pos pins s σ H Q I q => h.run pos pins s σ H Q I (m σ H Q q)⟩
theorem PS.mono {X : Cx} {e : PySem.Stmt} {t t' : TS} (h : PS X e t) (m : ∀ D σ H, t' D σ H → t D σ H) : PS X e t' := ⟨fun pins s σ H D I q => h.run pins s σ H D I (m D σ H q)⟩
theorem PSs.mono {X : Cx} {e : List PySem.Stmt} {t t' : TS} (h : PSs X e t) (m : ∀ D σ H, t' D σ H → t D σ H) : PSs X e t' := ⟨fun pins s σ H D I q => h.run pins s σ H D I (m D σ H q)⟩
end
end TR
end

section
set_option Elab.async false
set_option linter.all false
set_option maxRecDepth 100000
/-! TrOps: the operations on value trees are the rules' operations. -/
namespace TR
open PySem L2
section
variable {c : Cz} {φ : Nm → Addr} {Mo : Addr → Prop} {s : St} {σ : L2.St} {H : Hp}
theorem tx_len (z : Tx) : (tx z).length = z.length := by
  show z.toArray.size = z.length
  simp
theorem tx_list (z : Tx) : (tx z).cps.toList = z := by
  show z.toArray.toList = z
  simp
theorem tx_app (x y : Tx) : tx x ++ tx y = tx (x ++ y) := by
  show (⟨x.toArray ++ y.toArray⟩ : Str) = ⟨(x ++ y).toArray⟩
  simp
theorem tx_of (w : Str) : w = tx w.cps.toList := by
  show w = ⟨w.cps.toList.toArray⟩
  simp
theorem tx_inj {x y : Tx} (h : tx x = tx y) : x = y := by
  have e := congrArg (fun w : Str => w.cps.toList) h
  rw [← tx_list x, ← tx_list y]
  exact e
theorem lim_line {n : Nat} (h : n ≤ lim) : n ≤ sizeLine := Nat.le_trans h (by decide)
theorem lim_lt {n : Nat} (h : n < lim) : n < sizeLine := Nat.lt_of_lt_of_le h (by decide)
theorem okT.line {z : Tx} (h : okT z) : (tx z).length ≤ sizeLine := by
  rw [tx_len]
  exact lim_line h.1
theorem okT.app {x y : Tx} (h : okT x) (k : okT y) (l : x.length + y.length ≤ lim) : okT (x ++ y) :=
  ⟨by rw [List.length_append]; exact l, fun n hn => (List.mem_append.mp hn).elim (h.2 n) (k.2 n)⟩
theorem okT.one {z : Tx} (h : okT z) {n : Nat} (hn : n ∈ z) : okT [n] := ⟨by show 1 ≤ 1000000; decide, fun m hm => by
  rw [List.mem_singleton] at hm
  rw [hm]
  exact h.2 n hn⟩
theorem okT.sub {z w : Tx} (h : okT z) (hl : w.length ≤ z.length) (hm : ∀ n ∈ w, n ∈ z) : okT w := ⟨Nat.le_trans hl h.1, fun n hn => h.2 n (hm n hn)⟩

/-- what is read at a value -/
def CV (c : Cz) (φ : Nm → Addr) (M : Addr → Prop) (H : Hp) (L : Nat) (x : D) (v : V) : Prop := match x with
  | .olst ds => ∃ a vs, v = .ref a ∧ H a = some (.lst vs) ∧ RepL c φ M H L ds vs
  | .odct kvs => ∃ a us, v = .ref a ∧ H a = some (.dK us) ∧ RepK c φ M H L kvs us
  | .oobj k fs => c.hc k = true ∧ ∃ a nm dx us, v = .ref a ∧ (fs.map (·.1)).Nodup ∧ H a = some (.ins (c.ct k) dx us) ∧ RepO c φ M H L nm fs us
  | .hid => True
  | x => Rep c φ M H L x v
theorem cv_of {nm : Nm} {x : D} {v : V} (ho : owned x = true) (hx : x ≠ .hid) {a : Addr} {M : Addr → Prop} {L : Nat} (hv : v = .ref a) (k : ContAt c φ M H L nm x a) : CV c φ M H L x v := by
  cases x with
  | olst ds =>
    obtain ⟨vs, e, r⟩ := k
    exact ⟨a, vs, hv, e, r⟩
  | odct ds =>
    obtain ⟨vs, e, r⟩ := k
    exact ⟨a, vs, hv, e, r⟩
  | oobj k' ds =>
    obtain ⟨hk, nd, dx, vs, e, r⟩ := k
    exact ⟨hk, a, nm, dx, vs, hv, nd, e, r⟩
  | hid => exact absurd rfl hx
  | _ => cases ho
theorem contV (r : Rel c φ Mo s H) {d x : D} {v : V} (h : VRep c φ Mo s H d v) (e : cont s d = some x) : CV c φ (Ms φ Mo s) H s.sto.length x v := by
  have nmc : ∀ nm, nmOf d = some nm → v = .ref (φ nm) → CV c φ (Ms φ Mo s) H s.sto.length x v := fun nm hn hv => by
    unfold cont at e
    rw [hn] at e
    have e' : own s nm = some x := e
    by_cases hx : x = .hid
    · subst hx
      trivial
    · exact cv_of (own_owned e') hx hv (r.cnt nm x ⟨e', hx⟩)
  cases d with
  | sref i => exact nmc _ rfl h
  | fref n f => exact nmc _ rfl h
  | loc n => exact nmc _ rfl h.2
  | olst ds =>
    cases e
    obtain ⟨a, hv, _, k⟩ := h
    exact cv_of (x := .olst ds) rfl (by intro z; cases z) hv k
  | odct ds =>
    cases e
    obtain ⟨a, hv, _, k⟩ := h
    exact cv_of (x := .odct ds) rfl (by intro z; cases z) hv k
  | oobj k' ds =>
    cases e
    obtain ⟨a, hv, _, k⟩ := h
    exact cv_of (x := .oobj k' ds) rfl (by intro z; cases z) hv k
  | hid =>
    cases e
    trivial
  | dead =>
    cases e
    exact h
  | exc k fs =>
    cases e
    exact h
  | non =>
    cases e
    exact h
  | bl b =>
    cases e
    exact h
  | int b =>
    cases e
    exact h
  | str b =>
    cases e
    exact h
  | tup b =>
    cases e
    exact h
  | lst b =>
    cases e
    exact h
  | dct b =>
    cases e
    exact h
  | obj k b =>
    cases e
    exact h
  | scr b =>
    cases e
    exact h
theorem lst_of (r : Rel c φ Mo s H) {d : D} {ds : List D} {v : V} (h : VRep c φ Mo s H d v) (e : asLst s d = some ds) : ∃ a vs, v = .ref a ∧ H a = some (.lst vs) ∧ RepL c φ (Ms φ Mo s) H s.sto.length ds vs := by
  unfold asLst at e
  split at e
  · cases e
    rename_i e
    obtain ⟨a, vs, e1, _, e2, e3⟩ := contV r h e
    exact ⟨a, vs, e1, e2, e3⟩
  · cases e
    rename_i e
    obtain ⟨a, vs, e1, e2, e3⟩ := contV r h e
    exact ⟨a, vs, e1, e2, e3⟩
  · cases e
theorem tup_of {ds : List D} {v : V} {M : Addr → Prop} {L : Nat} (h : Rep c φ M H L (.tup ds) v) : ∃ a vs, v = .ref a ∧ SqT c.K H a vs ∧ RepL c φ M H L ds vs := by
  obtain ⟨a, vs, e1, k, e3⟩ := h
  refine ⟨a, vs, e1, ?_, e3⟩
  rcases k with ⟨_, k⟩ | k
  · exact SqT.of k
  · exact .inr k
theorem seq_of (r : Rel c φ Mo s H) {d : D} {ds : List D} {v : V} (h : VRep c φ Mo s H d v) (e : asSeq s d = some ds) : ∃ a vs, v = .ref a ∧ (SqL c.K H a vs ∨ SqT c.K H a vs) ∧ RepL c φ (Ms φ Mo s) H s.sto.length ds vs := by
  unfold asSeq at e
  split at e
  · cases e
    rename_i e
    obtain ⟨a, vs, e1, _, e2, e3⟩ := contV r h e
    exact ⟨a, vs, e1, .inl (SqL.of e2), e3⟩
  · cases e
    rename_i e
    obtain ⟨a, vs, e1, e2, e3⟩ := contV r h e
    exact ⟨a, vs, e1, .inl (SqL.of e2), e3⟩
  · cases e
    rename_i e
    obtain ⟨a, vs, e1, e2, e3⟩ := tup_of (contV r h e)
    exact ⟨a, vs, e1, .inr e2, e3⟩
  · cases e

/-! ### new things -/
/-- a new thing that is frozen from its begin -/
theorem grow_frz {p : Addr} {o : HO} (hp : H p = none) : Grow Mo Mo H (upd H p o) :=
  ⟨fun a u h => by rw [upd_ne (ne_of_none h hp)]; exact h, fun _ h => h, fun _ h => .inl h, fun _ h => .inl h⟩
/-- a new thing that is somebody's own -/
theorem grow_tmp {p : Addr} {o : HO} (hp : H p = none) : Grow Mo (fun a => Mo a ∨ a = p) H (upd H p o) :=
  ⟨fun a u h => by rw [upd_ne (ne_of_none h hp)]; exact h, fun _ h => .inl h, fun a h => h.imp id fun e => by rw [e]; exact hp,
    fun a h => h.imp id fun e => by
      rw [e, upd_same]
      exact fun z => by cases z⟩
theorem frz_at (r : RelE c φ Mo s σ H) {p : Addr} {o : HO} (hp : H p = none) : ¬ Ms φ Mo s p ∧ upd H p o p = some o := ⟨r.toRel.notM hp, upd_same⟩
/-- what is told of an operation's result -/
abbrev Told (c : Cz) (σ : L2.St) (φ : Nm → Addr) (Mo : Addr → Prop) (s : St) (H : Hp) (d : D) (Q : VK) : Prop :=
  ∀ v Mo' H', PostE c true σ φ Mo s H φ Mo' s H' → VRep c φ Mo' s H' d v → freshV H d v → Q v H'
theorem told_same (r : RelE c φ Mo s σ H) {d : D} {Q : VK} (q : Told c σ φ Mo s H d Q) {v : V} (h : VRep c φ Mo s H d v) (nt : temp d = false) : Q v H :=
  q v Mo H (PostE.refl r) h fun e => by rw [nt] at e; cases e
theorem told_lst (r : RelE c φ Mo s σ H) {ds : List D} {vs : List V} {Q : VK} (q : Told c σ φ Mo s H (.olst ds) Q) (h : RepL c φ (Ms φ Mo s) H s.sto.length ds vs) {p : Addr} (hp : H p = none) : Q (.ref p) (upd H p (.lst vs)) := by
  have g := grow_tmp (Mo := Mo) (o := .lst vs) hp
  refine q _ _ _ (PostE.grow r g) ⟨p, rfl, .inr rfl, vs, upd_same, RepL.mv (g.fr (φ := φ) (s := s)).mv _ _ h⟩ fun _ a e => ?_
  cases e
  exact hp
theorem told_dct (r : RelE c φ Mo s σ H) {ds : List (Tx × D)} {vs : List (Key × V)} {Q : VK} (q : Told c σ φ Mo s H (.odct ds) Q) (h : RepK c φ (Ms φ Mo s) H s.sto.length ds vs) {p : Addr} (hp : H p = none) : Q (.ref p) (upd H p (.dK vs)) := by
  have g := grow_tmp (Mo := Mo) (o := .dK vs) hp
  refine q _ _ _ (PostE.grow r g) ⟨p, rfl, .inr rfl, vs, upd_same, RepK.mv (g.fr (φ := φ) (s := s)).mv _ _ h⟩ fun _ a e => ?_
  cases e
  exact hp
theorem told_tup (r : RelE c φ Mo s σ H) {ds : List D} {vs : List V} {Q : VK} (q : Told c σ φ Mo s H (.tup ds) Q) (h : RepL c φ (Ms φ Mo s) H s.sto.length ds vs) {p : Addr} (hp : H p = none) : Q (.ref p) (upd H p (.tup vs)) := by
  have g := grow_frz (Mo := Mo) (o := .tup vs) hp
  refine q _ _ _ (PostE.grow r g) ⟨p, vs, rfl, .inl (frz_at r hp), RepL.mv (g.fr (φ := φ) (s := s)).mv _ _ h⟩ fun e => ?_
  cases e
/-- a value at its own level is told as frozen -/
theorem VRep.of {d : D} {v : V} (h : Rep c φ (Ms φ Mo s) H s.sto.length d v) : VRep c φ Mo s H d v ∧ temp d = false := by
  cases d with
  | olst ds => exact h.elim
  | odct ds => exact h.elim
  | oobj k' ds => exact h.elim
  | sref i => exact h.elim
  | fref n f => exact h.elim
  | _ => exact ⟨h, rfl⟩

/-! ### arithmetic -/
def rAddA (K : PySem.W.Frag) : R2 := fun x y H Q => (rI0 fun i j => .int (i + j)) x y H Q ∨ (∃ i j, x = .str i ∧ y = .str j ∧ i.length + j.length ≤ sizeLine ∧ Q (.str (i ++ j)) H) ∨ rCatA K x y H Q ∨ rCat x y H Q
theorem op_addA {X : Cx} : OpR X (binaryOp .Add) (rAddA X.K) := op_add.or (op_add_str.or (op_catA.or op_cat))
def rMulA : R2 := fun x y H Q => (rI CMul fun i j => .int (i * j)) x y H Q ∨ rRep x y H Q
theorem op_mulA {X : Cx} : OpR X (binaryOp .Mult) rMulA := op_mul.or op_rep
def boOp : Bo → PySem.Operator
  | .add => .Add | .sub => .Sub | .mul => .Mult | .fdiv => .FloorDiv | .mod => .Mod | .pow => .Pow | .shr => .RShift
def rBo (K : PySem.W.Frag) : Bo → R2
  | .add => rAddA K
  | .sub => rI0 fun i j => .int (i - j)
  | .mul => rMulA
  | .fdiv => rI CDiv fun i j => .int (i / j)
  | .mod => rI (fun _ j => 0 < j) fun i j => .int (i % j)
  | .pow => rI CPow fun i j => .int (i ^ j.toNat)
  | .shr => rI (fun _ j => 0 ≤ j) fun i j => .int (i / 2 ^ j.toNat)
theorem op_bo {X : Cx} (o : Bo) : OpR X (binaryOp (boOp o)) (rBo X.K o) := by
  cases o with
  | add => exact op_addA
  | sub => exact op_sub
  | mul => exact op_mulA
  | fdiv => exact op_fdiv
  | mod => exact op_mod
  | pow => exact op_pow
  | shr => exact op_shr
theorem told_int (r : RelE c φ Mo s σ H) {i : Int} {Q : VK} (q : Told c σ φ Mo s H (.int i) Q) : Q (.int i) H := told_same r q (show VRep c φ Mo s H (.int i) (.int i) from rfl) rfl
theorem told_bl (r : RelE c φ Mo s σ H) {i : Bool} {Q : VK} (q : Told c σ φ Mo s H (.bl i) Q) : Q (.bl i) H := told_same r q (show VRep c φ Mo s H (.bl i) (.bl i) from rfl) rfl
theorem told_str (r : RelE c φ Mo s σ H) {z : Tx} {Q : VK} (q : Told c σ φ Mo s H (.str z) Q) (h : okT z) : Q (.str (tx z)) H := told_same r q (show VRep c φ Mo s H (.str z) (.str (tx z)) from ⟨rfl, h⟩) rfl
theorem bo_ok (o : Bo) (r : RelE c φ Mo s σ H) {a b d : D} {x y : V} (ha : VRep c φ Mo s H a x) (hb : VRep c φ Mo s H b y) (e : binD o s a b = some d) {Q : VK} (q : Told c σ φ Mo s H d Q) : rBo c.K o x y H Q := by
  have ii : ∀ {i j : Int}, a = .int i → b = .int j → x = .int i ∧ y = .int j := fun {i j} h k => by
    subst h
    subst k
    exact ⟨ha, hb⟩
  unfold binD at e
  split at e
  · obtain ⟨rfl, rfl⟩ := ii rfl rfl
    cases e
    exact .inl ⟨_, _, rfl, rfl, told_int r q⟩
  · obtain ⟨rfl, rfl⟩ := ii rfl rfl
    cases e
    exact ⟨_, _, rfl, rfl, told_int r q⟩
  · obtain ⟨rfl, rfl⟩ := ii rfl rfl
    split at e
    · cases e
      rename_i hc
      exact .inl ⟨_, _, rfl, rfl, hc, told_int r q⟩
    · cases e
  · obtain ⟨rfl, rfl⟩ := ii rfl rfl
    split at e
    · cases e
      rename_i hc
      exact ⟨_, _, rfl, rfl, hc, told_int r q⟩
    · cases e
  · obtain ⟨rfl, rfl⟩ := ii rfl rfl
    split at e
    · cases e
      rename_i hc
      exact ⟨_, _, rfl, rfl, hc, told_int r q⟩
    · cases e
  · obtain ⟨rfl, rfl⟩ := ii rfl rfl
    split at e
    · cases e
      rename_i hc
      exact ⟨_, _, rfl, rfl, ⟨hc.1, by omega, by omega⟩, told_int r q⟩
    · cases e
  · obtain ⟨rfl, rfl⟩ := ii rfl rfl
    split at e
    · cases e
      rename_i hc
      exact ⟨_, _, rfl, rfl, hc, told_int r q⟩
    · cases e
  · split at e
    · cases e
      rename_i hc
      obtain ⟨rfl, k1⟩ := ha
      obtain ⟨rfl, k2⟩ := hb
      refine .inr (.inl ⟨_, _, rfl, rfl, by rw [tx_len, tx_len]; exact lim_line hc, ?_⟩)
      rw [tx_app]
      exact told_str r q (k1.app k2 hc)
    · cases e
  · split at e
    · cases e
      rename_i hc
      obtain ⟨p, vs, rfl, h1, r1⟩ := tup_of ha
      obtain ⟨p', vs', rfl, h2, r2⟩ := tup_of hb
      have l1 := r1.length
      have l2 := r2.length
      refine .inr (.inr (.inl ⟨_, _, _, _, rfl, rfl, h1, h2, by rw [l1, l2]; exact lim_line hc.1, fun z => ?_, fun _ z => ?_, fun _ _ t ht => ?_⟩))
      · rw [z] at l1
        exact absurd (List.eq_nil_of_length_eq_zero l1.symm) hc.2.1
      · rw [z] at l2
        exact absurd (List.eq_nil_of_length_eq_zero l2.symm) hc.2.2
      · exact told_tup r q (r1.app r2) ht
    · cases e
  · split at e
    · split at e
      · cases e
        rename_i h1 h2 hc
        obtain ⟨p, vs, rfl, k1, r1⟩ := lst_of r.toRel ha h1
        obtain ⟨p', vs', rfl, k2, r2⟩ := lst_of r.toRel hb h2
        refine .inr (.inr (.inr ⟨_, _, _, _, rfl, rfl, k1, k2, by rw [r1.length, r2.length]; exact lim_line hc, fun t ht => ?_⟩))
        exact told_lst r q (r1.app r2) ht
      · cases e
    · cases e
  · split at e
    · split at e
      · cases e
        rename_i h1 hc
        obtain ⟨p, vs, rfl, k1, r1⟩ := lst_of r.toRel ha h1
        have hy : y = _ := hb
        subst hy
        refine .inr ⟨_, _, _, rfl, rfl, k1, by omega, by omega, by rw [r1.length]; exact lim_line hc.2.2, fun t ht => ?_⟩
        exact told_lst r q (r1.reps _) ht
      · cases e
    · cases e
  · cases e
end
end TR
end

section
set_option Elab.async false
set_option linter.all false
set_option maxRecDepth 100000
/-! TrCmp: comparisons, subscripts, slices. -/
namespace TR
open PySem L2
mutual
def py : D → PyData
  | .non => .none
  | .bl b => .bool b
  | .int i => .int i
  | .str z => .str (tx z)
  | .tup ds => .tuple (pyL ds)
  | .lst ds => .list (pyL ds)
  | _ => .none
def pyL : List D → List PyData
  | [] => []
  | d :: ds => py d :: pyL ds
end
theorem pyData_ll (a b : List PyData) : PyData.eqv (.list a) (.list b) = PyData.eqvAll a b := by rw [PyData.eqv]
theorem eqv_py : ∀ (n : Nat) (x y : D), dat n x = true → dat n y = true → PyData.eqv (py x) (py y) = eqv n x y := by
  intro n
  induction n with
  | zero =>
    intro x y h
    cases h
  | succ n ih =>
    have all : ∀ (xs ys : List D), xs.all (dat n) = true → ys.all (dat n) = true → PyData.eqvAll (pyL xs) (pyL ys) = all2 (eqv n) xs ys := by
      intro xs
      induction xs with
      | nil =>
        intro ys _ _
        cases ys with
        | nil => rfl
        | cons y ys => rfl
      | cons x xs ih2 =>
        intro ys h1 h2
        cases ys with
        | nil => rfl
        | cons y ys =>
          rw [List.all_cons, Bool.and_eq_true] at h1 h2
          show (PyData.eqv (py x) (py y) && PyData.eqvAll (pyL xs) (pyL ys)) = (eqv n x y && all2 (eqv n) xs ys)
          rw [ih x y h1.1 h2.1, ih2 ys h1.2 h2.2]
    intro x y h1 h2
    cases x <;> first | (cases h1; done) | skip
    all_goals (cases y <;> first | (cases h2; done) | skip)
    all_goals first
      | rfl
      | exact all _ _ h1 h2
      | (rename_i a b
         show (tx a == tx b) = (a == b)
         rw [Bool.eq_iff_iff]
         simp only [beq_iff_eq]
         exact ⟨fun e => tx_inj e, fun e => by rw [e]⟩)
section
variable {c : Cz} {φ : Nm → Addr} {Mo : Addr → Prop} {s : St} {σ : L2.St} {H : Hp} {M : Addr → Prop} {L : Nat}
theorem strOk_tx {z : Tx} (h : okT z) : PyData.strOk (tx z) = true := by
  unfold PyData.strOk tx
  rw [List.all_toArray, List.all_eq_true]
  intro n hn
  have := h.2 n hn
  exact decide_eq_true (by omega)
theorem dpL {n : Nat} (ih : ∀ (d : D) (v : V), dat n d = true → Rep c φ M H L d v → Dp c.K H v (py d) ∧ (py d).canLay0 = true ∧ (py d).depth ≤ n) :
    ∀ (ds : List D) (vs : List V), ds.all (dat n) = true → RepL c φ M H L ds vs → DpAll c.K H vs (pyL ds) ∧ PyData.canLayAll0 (pyL ds) = true ∧ PyData.depthAll (pyL ds) ≤ n
  | [], vs, _, h => by
    rw [show vs = [] from h]
    exact ⟨.nil, rfl, Nat.zero_le _⟩
  | d :: ds, vs, hd, h => by
    obtain ⟨v, ws, rfl, r, t⟩ := h
    rw [List.all_cons, Bool.and_eq_true] at hd
    obtain ⟨a1, a2, a3⟩ := ih d v hd.1 r
    obtain ⟨b1, b2, b3⟩ := dpL ih ds ws hd.2 t
    refine ⟨.cons a1 b1, ?_, ?_⟩
    · show ((py d).canLay0 && PyData.canLayAll0 (pyL ds)) = true
      rw [a2, b2]
      rfl
    · show max (py d).depth (PyData.depthAll (pyL ds)) ≤ n
      omega
theorem Rep.dp : ∀ (n : Nat) (d : D) (v : V), dat n d = true → Rep c φ M H L d v → Dp c.K H v (py d) ∧ (py d).canLay0 = true ∧ (py d).depth ≤ n := by
  intro n
  induction n with
  | zero =>
    intro d v h
    cases h
  | succ n ih =>
    intro d v hd h
    cases d with
    | non =>
      rw [show v = .non from h]
      exact ⟨.non, rfl, Nat.zero_le _⟩
    | bl b =>
      rw [show v = .bl b from h]
      exact ⟨.bl b, rfl, Nat.zero_le _⟩
    | int b =>
      rw [show v = .int b from h]
      exact ⟨.int b, rfl, Nat.zero_le _⟩
    | str z =>
      obtain ⟨rfl, k⟩ := h
      exact ⟨.str _, strOk_tx k, Nat.zero_le _⟩
    | tup ds =>
      obtain ⟨a, vs, rfl, k, r⟩ := tup_of h
      obtain ⟨b1, b2, b3⟩ := dpL ih ds vs hd r
      exact ⟨.tup k b1, b2, by show PyData.depthAll (pyL ds) + 1 ≤ n + 1; omega⟩
    | lst ds =>
      obtain ⟨a, vs, rfl, _, k, r⟩ := h
      obtain ⟨b1, b2, b3⟩ := dpL ih ds vs hd r
      exact ⟨.lst (SqL.of k) b1, b2, by show PyData.depthAll (pyL ds) + 1 ≤ n + 1; omega⟩
    | _ => cases hd
theorem dataV (r : Rel c φ Mo s H) {d x : D} {v : V} (h : VRep c φ Mo s H d v) (e : dataOf s d = some x) (hd : dat 20 x = true) : Dp c.K H v (py x) ∧ SeqAt.shaped (py x) = true := by
  have fin : ∀ {y : D}, (py y).canLay0 = true ∧ (py y).depth ≤ 20 → SeqAt.shaped (py y) = true := fun {y} k => by
    unfold SeqAt.shaped
    rw [k.1, decide_eq_true (by omega : (py y).depth ≤ 64)]
    rfl
  unfold dataOf at e
  split at e
  · rename_i ds e1
    cases e
    obtain ⟨a, vs, rfl, k, rr⟩ := contV r h e1
    obtain ⟨b1, b2, b3⟩ := dpL (n := 19) (Rep.dp 19) ds vs hd rr
    exact ⟨.lst (SqL.of k) b1, fin (y := .lst ds) ⟨b2, by show PyData.depthAll (pyL ds) + 1 ≤ 20; omega⟩⟩
  · rename_i d' hne e1
    cases e
    have k := contV r h e1
    have k2 : Rep c φ (Ms φ Mo s) H s.sto.length x v := by
      cases x with
      | olst ds => exact (hne ds rfl).elim
      | odct ds => cases hd
      | oobj k ds => cases hd
      | hid => cases hd
      | _ => exact k
    obtain ⟨b1, b2⟩ := Rep.dp 20 x v hd k2
    exact ⟨b1, fin b2⟩
  · cases e
theorem eq_ok (r : RelE c φ Mo s σ H) {a b : D} {x y : V} {k : Bool} (ha : VRep c φ Mo s H a x) (hb : VRep c φ Mo s H b y) (e : eqD s a b = some k) : ∃ d e', Dp c.K H x d ∧ Dp c.K H y e' ∧ SeqAt.shaped d = true ∧ SeqAt.shaped e' = true ∧ PyData.eqv d e' = k := by
  unfold eqD at e
  split at e
  · rename_i x1 y1 e1 e2
    split at e
    · rename_i hd
      cases e
      rw [Bool.and_eq_true] at hd
      obtain ⟨p1, p2⟩ := dataV r.toRel ha e1 hd.1
      obtain ⟨q1, q2⟩ := dataV r.toRel hb e2 hd.2
      exact ⟨_, _, p1, q1, p2, q2, eqv_py 20 x1 y1 hd.1 hd.2⟩
    · cases e
  · cases e

/-! ### in -/
theorem flat_rep {d : D} {v : V} (f : flat d = true) (h : Rep c φ M H L d v) : flatV v = true := by
  cases d with
  | non =>
    rw [show v = .non from h]
    rfl
  | bl b =>
    rw [show v = .bl b from h]
    rfl
  | int b =>
    rw [show v = .int b from h]
    rfl
  | str z =>
    rw [show v = .str (tx z) from h.1]
    rfl
  | _ => cases f
theorem flat_vrep {d : D} {v : V} (f : flat d = true) (h : VRep c φ Mo s H d v) : Rep c φ (Ms φ Mo s) H s.sto.length d v := by
  cases d with
  | non => exact h
  | bl b => exact h
  | int b => exact h
  | str z => exact h
  | _ => cases f
theorem flats_rep : ∀ {ds : List D} {vs : List V}, ds.all flat = true → RepL c φ M H L ds vs → vs.all flatV = true
  | [], vs, _, h => by
    rw [show vs = [] from h]
    rfl
  | d :: ds, vs, f, h => by
    obtain ⟨v, ws, rfl, r, t⟩ := h
    rw [List.all_cons, Bool.and_eq_true] at f
    rw [List.all_cons, flat_rep f.1 r, flats_rep f.2 t]
    rfl
theorem eqV_rep {d e : D} {v w : V} (f : flat d = true) (g : flat e = true) (h : Rep c φ M H L d v) (k : Rep c φ M H L e w) : eqV v w = eqv 1 d e := by
  cases d <;> first | (cases f; done) | skip
  all_goals (cases e <;> first | (cases g; done) | skip)
  case str.str a b =>
    obtain ⟨rfl, _⟩ := h
    obtain ⟨rfl, _⟩ := k
    show (tx a == tx b) = (a == b)
    rw [Bool.eq_iff_iff, beq_iff_eq, beq_iff_eq]
    exact ⟨fun e => tx_inj e, fun e => by rw [e]⟩
  all_goals first
    | (obtain ⟨rfl, _⟩ := h; have k' := k; simp only [Rep] at k'; subst k'; first | rfl | (simp [eqV, eqv]; done))
    | (obtain ⟨rfl, _⟩ := k; have k' := h; simp only [Rep] at k'; subst k'; first | rfl | (simp [eqV, eqv]; done))
    | (have k' := h; have k2 := k; simp only [Rep] at k' k2; subst k'; subst k2; first | rfl | (simp [eqV, eqv]; done) | (simp [eqV, eqv]; rw [Bool.eq_iff_iff]; simp))
theorem any_rep {d : D} {v : V} (f : flat d = true) (h : Rep c φ M H L d v) : ∀ {ds : List D} {vs : List V}, ds.all flat = true → RepL c φ M H L ds vs → (vs.any fun w => eqV w v) = ds.any fun e => eqv 1 e d
  | [], vs, _, k => by
    rw [show vs = [] from k]
    rfl
  | e :: ds, vs, g, k => by
    obtain ⟨w, ws, rfl, r, t⟩ := k
    rw [List.all_cons, Bool.and_eq_true] at g
    rw [List.any_cons, List.any_cons, eqV_rep g.1 f r h, any_rep f h g.2 t]

def isDct (s : St) (d : D) : Bool := match cont s d with
  | some (.dct _) => true
  | some (.odct _) => true
  | _ => false
def rInA (K : PySem.W.Frag) : R2 := fun x y H Q => (∃ (c : Nat) (z : Str), x = .str ⟨#[c]⟩ ∧ y = .str z ∧ Q (.bl (decide (c ∈ z.cps.toList))) H) ∨ rIn K false x y H Q
def rNinA (K : PySem.W.Frag) : R2 := fun x y H Q => (∃ (c : Nat) (z : Str), x = .str ⟨#[c]⟩ ∧ y = .str z ∧ Q (.bl (!decide (c ∈ z.cps.toList))) H) ∨ rIn K true x y H Q
theorem op_inA {X : Cx} : OpR X (compareOp .In) (rInA X.K) := op_in_sign.or op_in_seq
theorem op_ninA {X : Cx} : OpR X (compareOp .NotIn) (rNinA X.K) := op_notIn_sign.or op_notIn_seq
theorem tx_one (n : Nat) : tx [n] = ⟨#[n]⟩ := rfl
/-- in, of a text or a flat list or tuple -/
theorem in_ok (r : Rel c φ Mo s H) {a b : D} {x y : V} {k : Bool} (ha : VRep c φ Mo s H a x) (hb : VRep c φ Mo s H b y) (nd : isDct s b = false) (e : inD s a b = some k) {Q : VK} {neg : Bool} (q : Q (.bl (if neg then !k else k)) H) :
    (∃ (c : Nat) (z : Str), x = .str ⟨#[c]⟩ ∧ y = .str z ∧ Q (.bl (if neg then !decide (c ∈ z.cps.toList) else decide (c ∈ z.cps.toList))) H) ∨ rIn c.K neg x y H Q := by
  unfold inD at e
  unfold isDct at nd
  split at e
  · rename_i z e1
    split at e
    · rename_i m
      cases e
      obtain ⟨rfl, _⟩ := ha
      obtain ⟨rfl, _⟩ := contV r hb e1
      refine .inl ⟨m, tx z, rfl, rfl, ?_⟩
      rw [tx_list]
      have ek : z.contains m = decide (m ∈ z) := by simp
      rw [ek] at q
      exact q
    · cases e
  · rename_i kvs e1
    rw [e1] at nd
    cases nd
  · rename_i kvs e1
    rw [e1] at nd
    cases nd
  · split at e
    · rename_i ds e1
      split at e
      · rename_i hf
        cases e
        rw [Bool.and_eq_true] at hf
        obtain ⟨p, vs, rfl, k1, rr⟩ := seq_of r hb e1
        have ra := flat_vrep hf.1 ha
        refine .inr ⟨p, vs, rfl, k1, flat_rep hf.1 ra, flats_rep hf.2 rr, ?_⟩
        have ei : inV x vs = ds.any fun e => eqv 1 e a := any_rep hf.1 ra hf.2 rr
        rw [ei]
        exact q
      · cases e
    · cases e
theorem lexLt_eq : ∀ (x y : List Int), lexLt x y = HT.lexLt x y
  | [], [] => rfl
  | [], _ :: _ => rfl
  | _ :: _, [] => rfl
  | x :: xs, y :: ys => by
    show (if x = y then lexLt xs ys else decide (x < y)) = (if x = y then HT.lexLt xs ys else decide (x < y))
    rw [lexLt_eq xs ys]
theorem lexAt_shift {e e' q q' : Nat → Bool} {z : Bool} : ∀ (k i j : Nat), (∀ m, m < k → e (i + m) = e' (j + m) ∧ q (i + m) = q' (j + m)) → Ob.lexAt e q z i k = Ob.lexAt e' q' z j k
  | 0, _, _, _ => rfl
  | k + 1, i, j, h => by
    have h0 := h 0 (by omega)
    rw [Nat.add_zero, Nat.add_zero] at h0
    rw [Ob.lexAt_succ, Ob.lexAt_succ, h0.1, h0.2, lexAt_shift k (i + 1) (j + 1) fun m hm => by
      have := h (m + 1) (by omega)
      rw [show i + (m + 1) = i + 1 + m by omega, show j + (m + 1) = j + 1 + m by omega] at this
      exact this]
theorem lexLe_eq : ∀ (x y : List Int), Ob.lexAt (fun j => decide (x.getD j 0 = y.getD j 0)) (fun j => decide (x.getD j 0 ≤ y.getD j 0)) (decide (x.length ≤ y.length)) 0 (min x.length y.length) = !lexLt y x
  | [], [] => rfl
  | [], _ :: _ => by simp [Ob.lexAt, lexLt]
  | _ :: _, [] => by simp [Ob.lexAt, lexLt]
  | x :: xs, y :: ys => by
    have em : min (x :: xs).length (y :: ys).length = min xs.length ys.length + 1 := by
      simp only [List.length_cons]
      omega
    rw [em, Ob.lexAt_succ]
    have ih := lexLe_eq xs ys
    have sh := lexAt_shift (z := decide ((x :: xs).length ≤ (y :: ys).length)) (e := fun j => decide ((x :: xs).getD j 0 = (y :: ys).getD j 0)) (q := fun j => decide ((x :: xs).getD j 0 ≤ (y :: ys).getD j 0))
      (e' := fun j => decide (xs.getD j 0 = ys.getD j 0)) (q' := fun j => decide (xs.getD j 0 ≤ ys.getD j 0)) (min xs.length ys.length) 1 0 (fun m _ => by
        rw [show 1 + m = m + 1 by omega, show 0 + m = m by omega]
        exact ⟨rfl, rfl⟩)
    show (if decide (x = y) = true then Ob.lexAt _ _ _ 1 (min xs.length ys.length) else decide (x ≤ y)) = !(if y = x then lexLt ys xs else decide (y < x))
    have el : decide ((x :: xs).length ≤ (y :: ys).length) = decide (xs.length ≤ ys.length) := by
      rw [Bool.eq_iff_iff]
      simp
    by_cases h : x = y
    · subst h
      rw [if_pos (by simp), if_pos rfl, sh, el, ih]
    · rw [if_neg (by simpa using h), if_neg (fun e => h e.symm), Bool.eq_iff_iff]
      simp only [decide_eq_true_eq, Bool.not_eq_true', decide_eq_false_iff_not]
      omega
def rLtA (K : PySem.W.Frag) : R2 := fun x y H Q => (rI0 fun i j => .bl (decide (i < j))) x y H Q ∨ rLtT K x y H Q
def rLeA (K : PySem.W.Frag) : R2 := fun x y H Q => (rI0 fun i j => .bl (decide (i ≤ j))) x y H Q ∨ L2.rLeT K x y H Q
def coOp : Co → PySem.CmpOp
  | .eq => .Eq | .ne => .NotEq | .lt => .Lt | .le => .LtE | .gt => .Gt | .ge => .GtE | .inn => .In | .nin => .NotIn
def rCo (K : PySem.W.Frag) : Co → R2
  | .eq => rEqD K
  | .ne => rNeD K
  | .lt => rLtA K
  | .le => rLeA K
  | .gt => rI0 fun i j => .bl (decide (j < i))
  | .ge => rI0 fun i j => .bl (decide (j ≤ i))
  | .inn => rInA K
  | .nin => rNinA K
theorem op_co {X : Cx} (hu : X.A.units + 64 < cLine) (o : Co) : OpR X (compareOp (coOp o)) (rCo X.K o) := by
  cases o with
  | eq => exact op_eqD hu
  | ne => exact op_neD hu
  | lt => exact op_lt.or (op_ltT (by omega))
  | le => exact op_le.or (L2.op_leT (by omega))
  | gt => exact op_gt
  | ge => exact op_ge
  | inn => exact op_inA
  | nin => exact op_ninA
theorem co_ok (o : Co) (r : RelE c φ Mo s σ H) {a b : D} {x y : V} {k : Bool} (ha : VRep c φ Mo s H a x) (hb : VRep c φ Mo s H b y) (nd : o = .inn ∨ o = .nin → isDct s b = false) (e : cmpD o s a b = some k) {Q : VK} (q : Q (.bl k) H) : rCo c.K o x y H Q := by
  have ii : ∀ {i j : Int}, a = .int i → b = .int j → x = .int i ∧ y = .int j := fun {i j} h k => by
    subst h
    subst k
    exact ⟨ha, hb⟩
  cases o with
  | eq =>
    obtain ⟨d, e', p1, p2, p3, p4, rfl⟩ := eq_ok r ha hb e
    exact ⟨d, e', p1, p2, p3, p4, q⟩
  | ne =>
    have e' : (eqD s a b).map (!·) = some k := e
    rw [Option.map_eq_some_iff] at e'
    obtain ⟨k', e1, rfl⟩ := e'
    obtain ⟨d, e', p1, p2, p3, p4, rfl⟩ := eq_ok r ha hb e1
    exact ⟨d, e', p1, p2, p3, p4, q⟩
  | inn => exact in_ok r.toRel (neg := false) ha hb (nd (.inl rfl)) e q
  | nin =>
    have e' : (inD s a b).map (!·) = some k := e
    rw [Option.map_eq_some_iff] at e'
    obtain ⟨k', e1, rfl⟩ := e'
    exact in_ok r.toRel (neg := true) ha hb (nd (.inr rfl)) e1 q
  | lt =>
    unfold cmpD at e
    dsimp only at e
    split at e
    · obtain ⟨rfl, rfl⟩ := ii rfl rfl
      cases e
      exact .inl ⟨_, _, rfl, rfl, q⟩
    · split at e
      · cases e
        rename_i h1 h2
        obtain ⟨p, vs, rfl, k1, r1⟩ := tup_of ha
        obtain ⟨p', vs', rfl, k2, r2⟩ := tup_of hb
        obtain ⟨e1, _⟩ := r1.intsD h1
        obtain ⟨e2, _⟩ := r2.intsD h2
        rw [e1] at k1
        rw [e2] at k2
        exact .inr ⟨p, p', _, _, rfl, rfl, k1, k2, by rw [← lexLt_eq]; exact q⟩
      · cases e
    · cases e
  | le =>
    unfold cmpD at e
    dsimp only at e
    split at e
    · obtain ⟨rfl, rfl⟩ := ii rfl rfl
      cases e
      exact .inl ⟨_, _, rfl, rfl, q⟩
    · split at e
      · cases e
        rename_i h1 h2
        obtain ⟨p, vs, rfl, k1, r1⟩ := tup_of ha
        obtain ⟨p', vs', rfl, k2, r2⟩ := tup_of hb
        obtain ⟨e1, _⟩ := r1.intsD h1
        obtain ⟨e2, _⟩ := r2.intsD h2
        rw [e1] at k1
        rw [e2] at k2
        exact .inr ⟨p, p', _, _, rfl, rfl, k1, k2, by rw [lexLe_eq]; exact q⟩
      · cases e
    · cases e
  | gt =>
    unfold cmpD at e
    dsimp only at e
    split at e
    · obtain ⟨rfl, rfl⟩ := ii rfl rfl
      cases e
      exact ⟨_, _, rfl, rfl, q⟩
    · cases e
  | ge =>
    unfold cmpD at e
    dsimp only at e
    split at e
    · obtain ⟨rfl, rfl⟩ := ii rfl rfl
      cases e
      exact ⟨_, _, rfl, rfl, q⟩
    · cases e

/-! ### subscripts, slices -/
theorem ixN_eq : ∀ n i, ixN n i = L2.ixN n i := fun _ _ => rfl
theorem atI_eq {α : Type} (xs : List α) (i : Int) : atI xs i = L2.atI xs i := rfl
theorem atI_rep {ds : List D} {vs : List V} {i : Int} {d : D} (h : RepL c φ M H L ds vs) (e : atI ds i = some d) : ∃ v, L2.atI vs i = some v ∧ Rep c φ M H L d v := by
  have e' : (ixN ds.length i).bind (fun j => ds[j]?) = some d := e
  rw [Option.bind_eq_some_iff] at e'
  obtain ⟨j, e1, e2⟩ := e'
  obtain ⟨v, e3, r⟩ := h.get e2
  refine ⟨v, ?_, r⟩
  show (L2.ixN vs.length i).bind (fun j => vs[j]?) = some v
  rw [h.length, ← ixN_eq, e1]
  exact e3
theorem ix_ok (r : RelE c φ Mo s σ H) {a b d : D} {x y : V} (ha : VRep c φ Mo s H a x) (hb : VRep c φ Mo s H b y) (nd : isDct s a = false) (e : ixD s a b = some d) {Q : VK} (q : Told c σ φ Mo s H d Q) : rIx c.K x y H Q := by
  unfold ixD at e
  unfold isDct at nd
  split at e
  · have hy : y = _ := hb
    subst hy
    split at e
    · rename_i e1
      obtain ⟨p, vs, rfl, _, k, rr⟩ := contV r.toRel ha e1
      obtain ⟨v, e2, rv⟩ := atI_rep rr e
      exact .inl ⟨p, vs, _, v, rfl, rfl, SqL.of k, e2, told_same r q (VRep.of rv).1 (VRep.of rv).2⟩
    · rename_i e1
      obtain ⟨p, vs, rfl, k, rr⟩ := contV r.toRel ha e1
      obtain ⟨v, e2, rv⟩ := atI_rep rr e
      exact .inl ⟨p, vs, _, v, rfl, rfl, SqL.of k, e2, told_same r q (VRep.of rv).1 (VRep.of rv).2⟩
    · rename_i e1
      obtain ⟨p, vs, rfl, k, rr⟩ := tup_of (contV r.toRel ha e1)
      obtain ⟨v, e2, rv⟩ := atI_rep rr e
      exact .inr (.inl ⟨p, vs, _, v, rfl, rfl, k, e2, told_same r q (VRep.of rv).1 (VRep.of rv).2⟩)
    · rename_i z e1
      obtain ⟨rfl, kz⟩ := contV r.toRel ha e1
      rw [Option.map_eq_some_iff] at e
      obtain ⟨n, e2, rfl⟩ := e
      refine .inr (.inr ⟨tx z, _, n, rfl, rfl, kz.line, by rw [tx_list]; exact e2, ?_⟩)
      have hm : n ∈ z := by
        have e3 : (ixN z.length _).bind (fun j => z[j]?) = some n := e2
        rw [Option.bind_eq_some_iff] at e3
        obtain ⟨j, _, e4⟩ := e3
        exact List.mem_of_getElem? e4
      exact told_str r q (kz.one hm)
    · rename_i ns e1
      obtain ⟨p, rfl, k⟩ := contV r.toRel ha e1
      rw [Option.map_eq_some_iff] at e
      obtain ⟨n, e2, rfl⟩ := e
      refine .inl ⟨p, ns.map V.int, _, .int n, rfl, rfl, scr_sq k, ?_, told_int r q⟩
      have e3 : (ixN ns.length _).bind (fun j => ns[j]?) = some n := e2
      show (L2.ixN (ns.map V.int).length _).bind (fun j => (ns.map V.int)[j]?) = some (V.int n)
      rw [List.length_map, ← ixN_eq]
      rw [Option.bind_eq_some_iff] at e3 ⊢
      obtain ⟨j, e4, e5⟩ := e3
      exact ⟨j, e4, by rw [List.getElem?_map, e5]; rfl⟩
    · cases e
  · split at e
    · rename_i e1
      rw [e1] at nd
      cases nd
    · rename_i e1
      rw [e1] at nd
      cases nd
    · cases e
  · cases e
theorem sIx_eq (n d : Nat) (o : Option Int) : sIx n d o = HT.sIx n d o := by
  cases o with
  | none => rfl
  | some i => rfl
theorem cut_rep {ds : List D} {vs : List V} {lo hi : Option Int} (h : RepL c φ M H L ds vs) : RepL c φ M H L (cut ds lo hi) (cutV vs lo hi) := by
  unfold cut cutV
  rw [sIx_eq, sIx_eq, ← h.length]
  exact (h.drop _).take _
theorem cut_mem {α : Type} {xs : List α} {lo hi : Option Int} {x : α} (h : x ∈ cut xs lo hi) : x ∈ xs := List.mem_of_mem_drop (List.mem_of_mem_take h)
theorem cut_len {α : Type} {xs : List α} {lo hi : Option Int} : (cut xs lo hi).length ≤ xs.length := by
  unfold cut
  rw [List.length_take, List.length_drop]
  omega
theorem cutS_tx (z : Tx) (lo hi : Option Int) : cutS (tx z) lo hi = tx (cut z lo hi) := by
  unfold cutS cut
  rw [tx_len, tx_list, sIx_eq, sIx_eq]
  rfl
def rSlAll (K : PySem.W.Frag) : V → Option Int → Option Int → Hp → VK → Prop := fun x lo hi H Q => rSlL K x lo hi H Q ∨ (rSlS x lo hi H Q ∨ rSlA K x lo hi H Q)
theorem sl_all {X : Cx} : SlR X (rSlAll X.K) := sl_list.or (sl_str.or sl_tupA)
theorem sl_ok (r : RelE c φ Mo s σ H) {a d : D} {x : V} {lo hi : Option Int} (ha : VRep c φ Mo s H a x) (e : slD s a lo hi = some d) {Q : VK} (q : Told c σ φ Mo s H d Q) : rSlAll c.K x lo hi H Q := by
  unfold slD at e
  split at e
  · rename_i e1
    cases e
    obtain ⟨p, vs, rfl, _, k, rr⟩ := contV r.toRel ha e1
    exact .inl ⟨p, vs, rfl, SqL.of k, fun t ht => told_lst r q (cut_rep rr) ht⟩
  · rename_i e1
    cases e
    obtain ⟨p, vs, rfl, k, rr⟩ := contV r.toRel ha e1
    exact .inl ⟨p, vs, rfl, SqL.of k, fun t ht => told_lst r q (cut_rep rr) ht⟩
  · rename_i e1
    cases e
    obtain ⟨rfl, kz⟩ := contV r.toRel ha e1
    refine .inr (.inl ⟨_, rfl, kz.line, ?_⟩)
    rw [cutS_tx]
    exact told_str r q (kz.sub cut_len fun n hn => cut_mem hn)
  · rename_i ds e1
    cases e
    have hx := contV r.toRel ha e1
    obtain ⟨p, vs, rfl, k, rr⟩ := tup_of hx
    refine .inr (.inr ⟨p, vs, rfl, k, fun hw => ?_, fun _ t ht => told_tup r q (cut_rep rr) ht⟩)
    have ec : cut ds lo hi = ds := by
      unfold cut
      rw [sIx_eq, sIx_eq, ← rr.length, hw.1, hw.2, rr.length, List.drop_zero, Nat.sub_zero, List.take_length]
    rw [ec] at q
    exact told_same r q (VRep.of (d := .tup ds) hx).1 rfl
  · cases e
end
end TR
end

section
set_option Elab.async false
set_option linter.all false
set_option maxRecDepth 100000
/-! TrMut: an owned thing changed, hidden, shown again; slots stored. -/
namespace TR
open PySem L2
/-- contents of lists, dicts, hidden ones -/
def ld : D → Bool
  | .olst _ => true | .odct _ => true | .hid => true | _ => false
theorem ld_owned {d : D} (h : ld d = true) : owned d = true := by
  cases d <;> first | rfl | cases h
theorem lookup_fput (f g : Nat) (d : D) : ∀ fs : List (Nat × D), (fput f d fs).lookup g = if g = f then some d else fs.lookup g
  | [] => by
    show (match g == f with | true => some d | false => none) = _
    by_cases h : g = f
    · simp [h]
    · rw [show (g == f) = false by simpa using h, if_neg h] <;> rfl
  | (k, e) :: r => by
    show (if k = f then (k, d) :: r else (k, e) :: fput f d r).lookup g = _
    by_cases hk : k = f
    · subst hk
      rw [if_pos rfl]
      by_cases hg : g = k
      · simp [List.lookup, hg]
      · have : (g == k) = false := by simpa using hg
        simp [List.lookup, this, hg]
    · rw [if_neg hk]
      by_cases hgk : g = k
      · subst hgk
        simp [List.lookup, hk]
      · have : (g == k) = false := by simpa using hgk
        simp only [List.lookup, this]
        exact lookup_fput f g d r
theorem keys_fput (f : Nat) (d : D) : ∀ fs : List (Nat × D), ∀ g, g ∈ (fput f d fs).map (·.1) ↔ g = f ∨ g ∈ fs.map (·.1)
  | [], g => by simp [fput]
  | (k, e) :: r, g => by
    show g ∈ (if k = f then (k, d) :: r else (k, e) :: fput f d r).map (·.1) ↔ _
    by_cases hk : k = f
    · subst hk
      rw [if_pos rfl]
      simp
    · rw [if_neg hk]
      simp only [List.map_cons, List.mem_cons, keys_fput f d r g]
      constructor
      · rintro (h | h | h)
        · exact .inr (.inl h)
        · exact .inl h
        · exact .inr (.inr h)
      · rintro (h | h | h)
        · exact .inr (.inl h)
        · exact .inl h
        · exact .inr (.inr h)
theorem nodup_fput (f : Nat) (d : D) : ∀ fs : List (Nat × D), (fs.map (·.1)).Nodup → ((fput f d fs).map (·.1)).Nodup
  | [], _ => by simp [fput]
  | (k, e) :: r, h => by
    show ((if k = f then (k, d) :: r else (k, e) :: fput f d r).map (·.1)).Nodup
    rw [List.map_cons, List.nodup_cons] at h
    by_cases hk : k = f
    · rw [if_pos hk, List.map_cons, List.nodup_cons]
      exact h
    · rw [if_neg hk, List.map_cons, List.nodup_cons]
      refine ⟨fun z => ?_, nodup_fput f d r h.2⟩
      rcases (keys_fput f d r k).mp z with z | z
      · exact hk z
      · exact h.1 z
theorem mem_lookup {fs : List (Nat × D)} {f : Nat} {d : D} (nd : (fs.map (·.1)).Nodup) (h : (f, d) ∈ fs) : fs.lookup f = some d := by
  induction fs with
  | nil => cases h
  | cons p r ih =>
    obtain ⟨g, e⟩ := p
    rw [List.map_cons, List.nodup_cons] at nd
    rcases List.mem_cons.mp h with q | q
    · cases q
      simp [List.lookup]
    · have : (f == g) = false := by
        cases z : (f == g) with
        | false => rfl
        | true =>
          have e : f = g := by simpa using z
          subst e
          exact absurd (List.mem_map_of_mem (f := (·.1)) q) nd.1
      simp only [List.lookup, this]
      exact ih nd.2 q

/-- what a store to an owned name does -/
structure PutOk (s s' : St) (nm : Nm) (d0 d : D) : Prop where
  same : ∀ nm', nm' ≠ nm → (∀ n f, nm = .fld n f → nm' ≠ .cell n) → own s' nm' = own s nm'
  here : own s' nm = some d
  cell : ∀ n f, nm = .fld n f → ∃ k fs, own s (.cell n) = some (.oobj k fs) ∧ own s' (.cell n) = some (.oobj k (fput f d fs)) ∧ fs.lookup f = some d0
  sto : s'.sto.length = s.sto.length
  env : ∀ j : Nat, s'.env[j]? = if nm = .slot j then some (some d) else s.env[j]?
theorem fldO_ld {d : D} (h : ld d = true) (f : Nat) : fldO (some d) f = none := by
  cases d <;> first | rfl | cases h
theorem putOk {s : St} {nm : Nm} {d0 d : D} (h : own s nm = some d0) (l0 : ld d0 = true) (l : ld d = true) : PutOk s (putAt s nm d) nm d0 d := by
  have lo := ld_owned l
  have hr := (own_iff.mp h).1
  cases nm with
  | slot i =>
    have hi : i < s.env.length := by
      cases e : s.env[i]? with
      | none =>
        have : raw s (.slot i) = none := by
          show (s.env[i]?).join = none
          rw [e] <;> rfl
        rw [this] at hr
        cases hr
      | some x => exact (List.getElem?_eq_some_iff.mp e).1
    have env : ∀ j : Nat, (putAt s (.slot i) d).env[j]? = if Nm.slot i = .slot j then some (some d) else s.env[j]? := fun j => by
      show (s.env.set i (some d))[j]? = _
      by_cases hj : i = j
      · subst hj
        rw [List.getElem?_set_self hi, if_pos rfl]
      · rw [List.getElem?_set_ne hj, if_neg (fun z => hj (Nm.slot.inj z))]
    refine ⟨fun nm' hn _ => ?_, ?_, fun n f z => (by cases z), rfl, env⟩
    · cases nm' with
      | slot j =>
        unfold own raw
        dsimp only
        rw [env j, if_neg (fun z => hn z.symm)]
      | cell n => rfl
      | fld n f => rfl
    · refine own_iff.mpr ⟨?_, lo⟩
      show ((putAt s (.slot i) d).env[i]?).join = some d
      rw [env i, if_pos rfl] <;> rfl
  | cell n =>
    have hn : n < s.sto.length := (List.getElem?_eq_some_iff.mp (show s.sto[n]? = some d0 from hr)).1
    have sto : ∀ j : Nat, (putAt s (.cell n) d).sto[j]? = if n = j then some d else s.sto[j]? := fun j => by
      show (s.sto.set n d)[j]? = _
      by_cases hj : n = j
      · subst hj
        rw [List.getElem?_set_self hn, if_pos rfl]
      · rw [List.getElem?_set_ne hj, if_neg hj]
    refine ⟨fun nm' hne _ => ?_, own_iff.mpr ⟨(by show (putAt s (.cell n) d).sto[n]? = _; rw [sto n, if_pos rfl]), lo⟩, fun n f z => (by cases z), (by show (s.sto.set n d).length = _; simp), fun j => (by rw [if_neg (fun z => by cases z)] <;> rfl)⟩
    cases nm' with
    | slot j => rfl
    | cell m =>
      unfold own raw
      dsimp only
      rw [sto m, if_neg (fun z => hne (by rw [z]))]
    | fld m f =>
      unfold own raw
      dsimp only
      by_cases hm : n = m
      · subst hm
        rw [sto n, if_pos rfl, fldO_ld l, show s.sto[n]? = some d0 from hr, fldO_ld l0]
      · rw [sto m, if_neg hm]
  | fld n f =>
    have hr' : fldO s.sto[n]? f = some d0 := hr
    obtain ⟨k, fs, e1, e2⟩ : ∃ k fs, s.sto[n]? = some (.oobj k fs) ∧ fs.lookup f = some d0 := by
      cases e : s.sto[n]? with
      | none =>
        rw [e] at hr'
        cases hr'
      | some x =>
        rw [e] at hr'
        cases x <;> first | exact ⟨_, _, rfl, hr'⟩ | cases hr'
    have hn : n < s.sto.length := (List.getElem?_eq_some_iff.mp e1).1
    have ep : putAt s (.fld n f) d = { s with sto := s.sto.set n (.oobj k (fput f d fs)) } := by
      unfold putAt
      simp only [e1]
    rw [ep]
    have sto : ∀ j : Nat, (s.sto.set n (D.oobj k (fput f d fs)))[j]? = if n = j then some (.oobj k (fput f d fs)) else s.sto[j]? := fun j => by
      by_cases hj : n = j
      · subst hj
        rw [List.getElem?_set_self hn, if_pos rfl]
      · rw [List.getElem?_set_ne hj, if_neg hj]
    refine ⟨fun nm' hne hc => ?_, own_iff.mpr ⟨?_, lo⟩, fun n' f' z => ?_, (by simp), fun j => (by rw [if_neg (fun z => by cases z)])⟩
    · cases nm' with
      | slot j => rfl
      | cell m =>
        unfold own raw
        dsimp only
        rw [sto m, if_neg (fun z => hc n f rfl (by rw [z]))]
      | fld m g =>
        unfold own raw
        dsimp only
        by_cases hm : n = m
        · subst hm
          rw [sto n, if_pos rfl, e1]
          show ((fput f d fs).lookup g).filter owned = (fs.lookup g).filter owned
          rw [lookup_fput, if_neg (fun z => hne (by rw [z]))]
        · rw [sto m, if_neg hm]
    · show fldO (s.sto.set n (D.oobj k (fput f d fs)))[n]? f = some d
      rw [sto n, if_pos rfl]
      show (fput f d fs).lookup f = some d
      rw [lookup_fput, if_pos rfl]
    · cases z
      refine ⟨k, fs, own_iff.mpr ⟨e1, rfl⟩, own_iff.mpr ⟨?_, rfl⟩, e2⟩
      show (s.sto.set n (D.oobj k (fput f d fs)))[n]? = _
      rw [sto n, if_pos rfl]

section
variable {c : Cz} {φ : Nm → Addr} {Mo Mo' : Addr → Prop} {s s' : St} {σ : L2.St} {H H' : Hp} {nm : Nm} {d0 d : D}
theorem repO_put {M : Addr → Prop} {L : Nat} {f : Nat} {nm : Nm} (o0 : owned d0 = true) (o : owned d = true) : ∀ (fs : List (Nat × D)) (us : List (Str × V)), fs.lookup f = some d0 → RepO c φ M H L nm fs us → RepO c φ M H L nm (fput f d fs) us
  | [], us, h, _ => by cases h
  | (k, e) :: r, us, h, q => by
    obtain ⟨hk, v, ws, rfl, q1, q2⟩ := q
    show RepO c φ M H L nm (if k = f then (k, d) :: r else (k, e) :: fput f d r) _
    by_cases hkf : k = f
    · subst hkf
      rw [if_pos rfl]
      simp only [List.lookup, beq_self_eq_true, Option.some.injEq] at h
      subst h
      rw [if_pos o0] at q1
      exact ⟨hk, v, ws, rfl, by rw [if_pos o]; exact q1, q2⟩
    · rw [if_neg hkf]
      have : (f == k) = false := by simpa using fun z : f = k => hkf z.symm
      simp only [List.lookup, this] at h
      exact ⟨hk, v, ws, rfl, q1, repO_put o0 o r ws h q2⟩
/-- the names that are somebody's own are the same, but nm's content -/
theorem PutOk.other (po : PutOk s s' nm d0 d) (o0 : owned d0 = true) {nm' : Nm} (hn : nm' ≠ nm) : (∃ x, Act s nm' x) ↔ ∃ x, Act s' nm' x := by
  by_cases hc : ∃ n f, nm = .fld n f ∧ nm' = .cell n
  · obtain ⟨n, f, e1, e2⟩ := hc
    obtain ⟨k, fs, h1, h2, _⟩ := po.cell n f e1
    subst e2
    exact ⟨fun _ => ⟨_, h2, by intro z; cases z⟩, fun _ => ⟨_, h1, by intro z; cases z⟩⟩
  · have e := po.same nm' hn fun n f h1 h2 => hc ⟨n, f, h1, h2⟩
    unfold Act
    rw [e]
theorem Rel.next (r : Rel c φ Mo s H) (po : PutOk s s' nm d0 d) (l0 : ld d0 = true) (l : ld d = true) (mem : Ms φ Mo s (φ nm)) (hM : ∀ a, Ms φ Mo' s' a ↔ Ms φ Mo s a) (hH : ∀ a, a ≠ φ nm → H' a = H a)
    (new : d ≠ .hid → ContAt c φ (Ms φ Mo s) H' s.sto.length nm d (φ nm) ∧ ¬ Mo' (φ nm)) (ho : ∀ a, Mo' a → Mo a ∨ a = φ nm) (hd : ∀ a, Mo' a → H' a ≠ none) (inj : ∀ nm' x, Act s nm' x → nm' ≠ nm → φ nm' ≠ φ nm) : Rel c φ Mo' s' H' := by
  have eM : Ms φ Mo' s' = Ms φ Mo s := funext fun a => propext (hM a)
  have mv : Mv φ φ (Ms φ Mo s) (Ms φ Mo' s') H H' s.sto.length s'.sto.length := ⟨fun a o h hn => by
    have na : a ≠ φ nm := fun z => hn (by rw [z]; exact mem)
    rw [hH a na, eM]
    exact ⟨h, hn⟩, fun _ _ => rfl, by rw [po.sto]; exact Nat.le_refl _⟩
  have back : ∀ nm' x, Act s' nm' x → nm' ≠ nm → ∃ y, Act s nm' y := fun nm' x h hn => (po.other (ld_owned l0) hn).mpr ⟨x, h⟩
  refine ⟨fun a b x y ha hb e => ?_, fun a x ha z => ?_, fun a x ha => ?_, hd⟩
  · by_cases h1 : a = nm
    · by_cases h2 : b = nm
      · rw [h1, h2]
      · obtain ⟨y', hy⟩ := back b y hb h2
        exact absurd (by rw [← e, h1]) (inj b y' hy h2)
    · obtain ⟨x', hx⟩ := back a x ha h1
      by_cases h2 : b = nm
      · exact absurd (by rw [e, h2]) (inj a x' hx h1)
      · obtain ⟨y', hy⟩ := back b y hb h2
        exact r.inj a b x' y' hx hy e
  · by_cases h1 : a = nm
    · subst h1
      have ex : x = d := by
        have q := ha.1
        rw [po.here] at q
        exact (Option.some.inj q).symm
      subst ex
      exact (new ha.2).2 z
    · obtain ⟨x', hx⟩ := back a x ha h1
      rcases ho _ z with z | z
      · exact r.out a x' hx z
      · exact inj a x' hx h1 z
  · by_cases h1 : a = nm
    · subst h1
      have ex : x = d := by
        have q := ha.1
        rw [po.here] at q
        exact (Option.some.inj q).symm
      subst ex
      rw [eM, po.sto]
      exact (new ha.2).1
    · by_cases hc : ∃ n f, nm = .fld n f ∧ a = .cell n
      · obtain ⟨n, f, e1, e2⟩ := hc
        obtain ⟨k, fs, q1, q2, q3⟩ := po.cell n f e1
        subst e2
        have ex : x = .oobj k (fput f d fs) := by
          have q := ha.1
          rw [q2] at q
          exact (Option.some.inj q).symm
        subst ex
        have k0 := r.cnt _ _ (show Act s (.cell n) (.oobj k fs) from ⟨q1, by intro z; cases z⟩)
        have k1 := ContAt.mv mv (fun o e => by
          rw [hH _ (inj (.cell n) _ (show Act s (.cell n) (.oobj k fs) from ⟨q1, by intro z; cases z⟩) h1)]
          exact e) (fun _ _ _ _ _ _ _ _ _ => rfl) k0
        obtain ⟨hk, nd, dx, us, e3, e4⟩ := k1
        exact ⟨hk, nodup_fput f d fs nd, dx, us, e3, repO_put (ld_owned l0) (ld_owned l) fs us q3 e4⟩
      · have e := po.same a h1 fun n f h2 h3 => hc ⟨n, f, h2, h3⟩
        have ha' : Act s a x := ⟨by rw [← e]; exact ha.1, ha.2⟩
        exact ContAt.mv mv (fun o e => by
          rw [hH _ (inj a x ha' h1)]
          exact e) (fun _ _ _ _ _ _ _ _ _ => rfl) (r.cnt a x ha')

/-- the same names own as before -/
theorem PutOk.ms (po : PutOk s s' nm d0 d) (o0 : owned d0 = true) (h0 : d0 ≠ .hid) (own0 : own s nm = some d0) (h : d ≠ .hid) : ∀ a, Ms φ Mo s' a ↔ Ms φ Mo s a := fun a => by
  constructor
  · rintro (q | ⟨nm', x, hx, e⟩)
    · exact .inl q
    · by_cases hn : nm' = nm
      · subst hn
        exact .inr ⟨nm', d0, ⟨own0, h0⟩, e⟩
      · obtain ⟨y, hy⟩ := (po.other o0 hn).mpr ⟨x, hx⟩
        exact .inr ⟨nm', y, hy, e⟩
  · rintro (q | ⟨nm', x, hx, e⟩)
    · exact .inl q
    · by_cases hn : nm' = nm
      · subst hn
        exact .inr ⟨nm', d, ⟨po.here, h⟩, e⟩
      · obtain ⟨y, hy⟩ := (po.other o0 hn).mp ⟨x, hx⟩
        exact .inr ⟨nm', y, hy, e⟩
theorem PutOk.hidEq (po : PutOk s s' nm d0 d) (h : d ≠ .hid) {nm' : Nm} (e : own s' nm' = some .hid) : own s nm' = some .hid := by
  by_cases hn : nm' = nm
  · subst hn
    rw [po.here] at e
    exact absurd (Option.some.inj e) h
  · by_cases hc : ∃ n f, nm = .fld n f ∧ nm' = .cell n
    · obtain ⟨n, f, e1, e2⟩ := hc
      obtain ⟨k, fs, q1, q2, _⟩ := po.cell n f e1
      subst e2
      rw [q2] at e
      cases e
    · rw [← po.same nm' hn fun n f h2 h3 => hc ⟨n, f, h2, h3⟩]
      exact e
theorem PutOk.slotEq (po : PutOk s s' nm d0 d) (own0 : own s nm = some d0) (h0 : d0 ≠ .hid) (o0 : owned d0 = true) {i : Nat} {x : D} (e : Act s' (.slot i) x) : ∃ y, Act s (.slot i) y := by
  by_cases hn : Nm.slot i = nm
  · subst hn
    exact ⟨d0, own0, h0⟩
  · exact (po.other o0 hn).mpr ⟨x, e⟩
theorem Mv.put (r : Rel c φ Mo s H) (po : PutOk s s' nm d0 d) (mem : Ms φ Mo s (φ nm)) (hM : ∀ a, Ms φ Mo s' a ↔ Ms φ Mo s a) {o : HO} : Mv φ φ (Ms φ Mo s) (Ms φ Mo s') H (upd H (φ nm) o) s.sto.length s'.sto.length := ⟨fun a u h hn => by
  have na : a ≠ φ nm := fun z => hn (by rw [z]; exact mem)
  rw [upd_ne na, hM a]
  exact ⟨h, hn⟩, fun _ _ => rfl, by rw [po.sto]; exact Nat.le_refl _⟩
/-- a list or dict is changed -/
theorem Rel.put (r : Rel c φ Mo s H) (po : PutOk s s' nm d0 d) (own0 : own s nm = some d0) (l0 : ld d0 = true) (h0 : d0 ≠ .hid) (l : ld d = true) (h : d ≠ .hid) {o : HO} (new : ContAt c φ (Ms φ Mo s) (upd H (φ nm) o) s.sto.length nm d (φ nm)) :
    Rel c φ Mo s' (upd H (φ nm) o) ∧ Fr φ Mo s H φ Mo s' (upd H (φ nm) o) := by
  have mem : Ms φ Mo s (φ nm) := .inr ⟨nm, d0, ⟨own0, h0⟩, rfl⟩
  have hM := po.ms (φ := φ) (Mo := Mo) (ld_owned l0) h0 own0 h
  have dom : ∀ a, H a ≠ none → upd H (φ nm) o a ≠ none := fun a ha => by
    by_cases q : a = φ nm
    · rw [q, upd_same]
      exact fun z => by cases z
    · rw [upd_ne q]
      exact ha
  refine ⟨r.next po l0 l mem hM (fun a ha => upd_ne ha) (fun _ => ⟨new, r.out nm d0 ⟨own0, h0⟩⟩) (fun _ q => .inl q) (fun a q => dom a (r.dom a q)) (fun nm' x hx hn e => hn (r.inj nm' nm x d0 hx ⟨own0, h0⟩ e)), ?_⟩
  refine ⟨fun a u ha hn => ?_, fun a ha => .inl ((hM a).mp ha), fun a ha => ⟨ha, fun u e => ?_⟩, fun a ha => .inl ha, fun _ _ => rfl, by rw [po.sto]; exact Nat.le_refl _, dom, fun nm' e => ⟨po.hidEq h e, rfl⟩, fun i x e => .inl ⟨po.slotEq own0 h0 (ld_owned l0) e, rfl⟩, rfl⟩
  · rw [upd_ne (fun z => hn (by rw [z]; exact mem))]
    exact ha
  · rw [upd_ne (fun z => r.out nm d0 ⟨own0, h0⟩ (by rw [← z]; exact ha))]
    exact e
theorem RelE.put (r : RelE c φ Mo s σ H) (po : PutOk s s' nm d0 d) (own0 : own s nm = some d0) (l0 : ld d0 = true) (h0 : d0 ≠ .hid) (l : ld d = true) (h : d ≠ .hid) {o : HO} (new : ContAt c φ (Ms φ Mo s) (upd H (φ nm) o) s.sto.length nm d (φ nm)) (len : s'.env.length = s.env.length) :
    PostE c true σ φ Mo s H φ Mo s' (upd H (φ nm) o) := by
  obtain ⟨r', fr⟩ := r.toRel.put po own0 l0 h0 l h new
  refine ⟨{ r' with len := by rw [len]; exact r.len, slots := fun i x e => ?_ }, fr, fun _ => rfl, fun _ _ _ => rfl⟩
  rw [po.env i] at e
  by_cases hn : nm = .slot i
  · rw [if_pos hn] at e
    have ex : d = x := by
      injection e with e
      injection e
    subst ex
    subst hn
    have hr := (own_iff.mp own0).1
    have he : s.env[i]? = some (some d0) := by
      have hr' : (s.env[i]?).join = some d0 := hr
      cases q : s.env[i]? with
      | none =>
        rw [q] at hr'
        cases hr'
      | some y =>
        rw [q] at hr'
        rw [show y = some d0 from hr']
    obtain ⟨v, e1, e2⟩ := r.slots i d0 he
    rw [if_pos (ld_owned l0)] at e2
    exact ⟨v, e1, by rw [if_pos (ld_owned l)]; exact e2⟩
  · rw [if_neg hn] at e
    obtain ⟨v, e1, e2⟩ := r.slots i x e
    refine ⟨v, e1, ?_⟩
    by_cases ho : owned x = true
    · rw [if_pos ho] at e2 ⊢
      exact e2
    · rw [if_neg ho] at e2 ⊢
      exact Rep.mv fr.mv _ _ e2
/-- .. the value at nm is known -/
theorem vref (r : Rel c φ Mo s H) {x : D} {v : V} (e : nmOf x = some nm) (h : VRep c φ Mo s H x v) : v = .ref (φ nm) := by
  cases x <;> first | (cases e; exact h.2) | (cases e; exact h) | cases e
theorem putAt_env {d0 d : D} (h : own s nm = some d0) : (putAt s nm d).env.length = s.env.length := by
  cases nm with
  | slot i => exact List.length_set ..
  | cell n => rfl
  | fld n f =>
    unfold putAt
    dsimp only
    split <;> rfl

/-! ### a slot is stored -/
theorem slot_env {s : St} {i : Nat} {d : D} (h : own s (.slot i) = some d) : s.env[i]? = some (some d) := by
  have hr : (s.env[i]?).join = some d := (own_iff.mp h).1
  cases q : s.env[i]? with
  | none =>
    rw [q] at hr
    cases hr
  | some y =>
    rw [q] at hr
    rw [show y = some d from hr]
theorem own_slot {s : St} {i : Nat} {d : D} (h : s.env[i]? = some (some d)) (ho : owned d = true) : own s (.slot i) = some d := own_iff.mpr ⟨by
  show (s.env[i]?).join = some d
  rw [h] <;> rfl, ho⟩
theorem own_env {s : St} {env : List (Option D)} {nm : Nm} (h : ∀ i, nm = .slot i → env[i]? = s.env[i]?) : own { s with env := env } nm = own s nm := by
  cases nm with
  | slot i =>
    unfold own raw
    dsimp only
    rw [h i rfl]
  | _ => rfl
/-- slots are stored, no new own thing among them: some own things are let go or frozen -/
theorem Rel.env (r : Rel c φ Mo s H) {env : List (Option D)} (h : ∀ i d, Act { s with env := env } (.slot i) d → Act s (.slot i) d) : Rel c φ Mo { s with env := env } H := by
  have act : ∀ nm d, Act { s with env := env } nm d → Act s nm d := fun nm d ha => by
    cases nm with
    | slot i => exact h i d ha
    | cell n => exact ha
    | fld n f => exact ha
  have ms : ∀ a, Ms φ Mo { s with env := env } a → Ms φ Mo s a := fun a q => q.imp id fun ⟨nm, d, ha, e⟩ => ⟨nm, d, act nm d ha, e⟩
  refine ⟨fun a b x y ha hb e => r.inj a b x y (act a x ha) (act b y hb) e, fun a x ha => r.out a x (act a x ha), fun a x ha => ?_, r.dom⟩
  exact ContAt.mv ⟨fun a o e hn => ⟨e, fun z => hn (ms a z)⟩, fun _ _ => rfl, Nat.le_refl _⟩ (fun _ e => e) (fun _ _ _ _ _ _ _ _ _ => rfl) (r.cnt a x (act a x ha))
theorem Ms.env {env : List (Option D)} (h : ∀ i d, Act { s with env := env } (.slot i) d → Act s (.slot i) d) : ∀ a, Ms φ Mo { s with env := env } a → Ms φ Mo s a := fun a q => q.imp id fun ⟨nm, d, ha, e⟩ => ⟨nm, d, by
  cases nm with
  | slot i => exact h i d ha
  | cell n => exact ha
  | fld n f => exact ha, e⟩
theorem Fr.env {env : List (Option D)} (h : ∀ i d, Act { s with env := env } (.slot i) d → Act s (.slot i) d) (hh : ∀ i, own { s with env := env } (.slot i) = some .hid → own s (.slot i) = some .hid) : Fr φ Mo s H φ Mo { s with env := env } H :=
  ⟨fun a o e _ => e, fun a q => .inl (Ms.env h a q), fun a q => ⟨q, fun _ e => e⟩, fun a q => .inl q, fun _ _ => rfl, Nat.le_refl _, fun _ q => q, fun nm e => by
    cases nm with
    | slot i => exact ⟨hh i e, rfl⟩
    | cell n => exact ⟨e, rfl⟩
    | fld n f => exact ⟨e, rfl⟩, fun i d q => .inl ⟨⟨d, h i d q⟩, rfl⟩, rfl⟩
end
end TR
end

section
set_option Elab.async false
set_option linter.all false
set_option maxRecDepth 100000
/-! TrEsc: values that leave, new cells, stores to slots. -/
namespace TR
open PySem L2
section
variable {c : Cz} {φ φ0 : Nm → Addr} {Mo Mo' Mo0 : Addr → Prop} {s s' s0 : St} {σ : L2.St} {H H' H0 : Hp} {nm : Nm} {d d' : D} {v : V} {cl : Bool}
theorem Rel.drop (r : Rel c φ Mo s H) (h : ∀ a, Mo' a → Mo a) : Rel c φ Mo' s H :=
  ⟨r.inj, fun nm d ha z => r.out nm d ha (h _ z), fun nm d ha => ContAt.mv ⟨fun a o e hn => ⟨e, fun z => hn (z.imp (h a) id)⟩, fun _ _ => rfl, Nat.le_refl _⟩ (fun _ e => e) (fun _ _ _ _ _ _ _ _ _ => rfl) (r.cnt nm d ha), fun a ha => r.dom a (h a ha)⟩
theorem RelE.drop (r : RelE c φ Mo s σ H) (h : ∀ a, Mo' a → Mo a) : RelE c φ Mo' s σ H :=
  { r.toRel.drop h with
    len := r.len
    slots := fun i d e => by
      obtain ⟨v, e1, e2⟩ := r.slots i d e
      refine ⟨v, e1, ?_⟩
      by_cases ho : owned d = true
      · rw [if_pos ho] at e2 ⊢
        exact e2
      · rw [if_neg ho] at e2 ⊢
        exact Rep.mv ⟨fun a o e hn => ⟨e, fun z => hn (z.imp (h a) id)⟩, fun _ _ => rfl, Nat.le_refl _⟩ _ _ e2 }
theorem repO_F {M : Addr → Prop} {L i : Nat} : ∀ {fs : List (Nat × D)} {us : List (Str × V)}, RepO c φ M H L (.slot i) fs us → RepF c φ M H L fs us
  | [], _, h => h
  | (k, e) :: r, us, h => by
    obtain ⟨hk, v, ws, rfl, q1, q2⟩ := h
    refine ⟨hk, v, ws, rfl, ?_, repO_F q2⟩
    by_cases ho : owned e = true
    · rw [if_pos ho] at q1
      obtain ⟨n, z, _⟩ := q1
      cases z
    · rw [if_neg ho] at q1
      exact q1
theorem repF_O {M : Addr → Prop} {L : Nat} {nm : Nm} : ∀ {fs : List (Nat × D)} {us : List (Str × V)}, RepF c φ M H L fs us → RepO c φ M H L nm fs us
  | [], _, h => h
  | (k, e) :: r, us, h => by
    obtain ⟨hk, v, ws, rfl, q1, q2⟩ := h
    refine ⟨hk, v, ws, rfl, ?_, repF_O q2⟩
    by_cases ho : owned e = true
    · exfalso
      cases e <;> first | exact q1.elim | (cases ho; done)
    · rw [if_neg ho]
      exact q1
/-- an own thing seen as frozen -/
theorem frz_rep {M : Addr → Prop} {L i : Nat} {a : Addr} (ha : ¬ M a) (ho : owned d = true) (h : ContAt c φ M H L (.slot i) d a) (e : frz d = some d') (hv : v = .ref a) : Rep c φ M H L d' v ∧ owned d' = false := by
  cases d with
  | olst ds =>
    cases e
    obtain ⟨vs, k, r⟩ := h
    exact ⟨⟨a, vs, hv, ha, k, r⟩, rfl⟩
  | odct ds =>
    cases e
    obtain ⟨vs, k, r⟩ := h
    exact ⟨⟨a, vs, hv, ha, .inl k, r⟩, rfl⟩
  | oobj k' ds =>
    cases e
    obtain ⟨hk, _, dx, vs, k, r⟩ := h
    exact ⟨⟨hk, a, dx, vs, hv, ha, k, repO_F r⟩, rfl⟩
  | hid => cases e
  | _ => cases ho
theorem temp_owned (h : temp d = true) : owned d = true ∧ d ≠ .hid := by
  cases d <;> first | (cases h; done) | exact ⟨rfl, by intro z; cases z⟩
/-- a temporary thing: where it lies -/
theorem VRep.tmp (h : VRep c φ Mo s H d v) (t : temp d = true) : ∃ a, v = .ref a ∧ Mo a ∧ ContAt c φ (Ms φ Mo s) H s.sto.length (.slot 0) d a := by
  cases d <;> first | (cases t; done) | exact h
theorem VRep.frzn (h : VRep c φ Mo s H d v) (e : frz d = some d') (t : temp d = false) : d' = d ∧ Rep c φ (Ms φ Mo s) H s.sto.length d v := by
  cases d <;> first | (cases t; done) | (cases e; exact ⟨rfl, h⟩) | (cases e; done)
/-- the frame from the start, with a temporary thing let go -/
theorem PostE.let (P : PostE c cl σ φ0 Mo0 s0 H0 φ Mo s H) (r0 : ∀ a, Mo0 a → H0 a ≠ none) {a : Addr} (fr : H0 a = none) : PostE c cl σ φ0 Mo0 s0 H0 φ (fun x => Mo x ∧ x ≠ a) s H :=
  ⟨P.rel.drop fun _ h => h.1, ⟨P.fr.imm, fun x h => P.fr.new x (h.imp (fun q => q.1) id), fun x h => ⟨⟨(P.fr.outer x h).1, fun z => r0 x h (by rw [z]; exact fr)⟩, (P.fr.outer x h).2⟩, fun x h => P.fr.fresh x h.1, P.fr.cell, P.fr.len, P.fr.dom, P.fr.hid, P.fr.slot, P.fr.s0⟩, P.slots, P.fld⟩
theorem esc_ok (P : PostE c cl σ φ0 Mo0 s0 H0 φ Mo s H) (r0 : ∀ a, Mo0 a → H0 a ≠ none) (vr : VRep c φ Mo s H d v) (fr : freshV H0 d v) (e : esc s d = .ok d' s') :
    ∃ Mo', PostE c cl σ φ0 Mo0 s0 H0 φ Mo' s' H ∧ Rep c φ (Ms φ Mo' s') H s'.sto.length d' v ∧ owned d' = false ∧ (∀ a, Ms φ Mo' s' a → Ms φ Mo s a) ∧ s'.sto = s.sto := by
  by_cases hs : ∃ i, d = .sref i
  · obtain ⟨i, rfl⟩ := hs
    have e' : (match own s (.slot i) with
      | some c => (match frz c with
        | some d' => R.ok d' { s with env := s.env.set i (some d') }
        | none => .stuck)
      | none => .stuck) = R.ok d' s' := e
    cases q : own s (.slot i) with
    | none =>
      rw [q] at e'
      cases e'
    | some x =>
      rw [q] at e'
      dsimp only at e'
      cases q2 : frz x with
      | none =>
        rw [q2] at e'
        cases e'
      | some y =>
        rw [q2] at e'
        cases e'
        have hv : v = .ref (φ (.slot i)) := vr
        have hx : x ≠ .hid := fun z => by
          rw [z] at q2
          cases q2
        have act : Act s (.slot i) x := ⟨q, hx⟩
        have en := slot_env q
        have hi := (List.getElem?_eq_some_iff.mp en).1
        have eo : owned d' = false := by
          have := own_owned q
          cases x <;> first | (cases q2; rfl) | (cases q2; done) | (cases this; done)
        have hnew : ∀ j w, own { s with env := s.env.set i (some d') } (.slot j) = some w → own s (.slot j) = some w ∧ j ≠ i := fun j w hw => by
          by_cases hj : i = j
          · subst hj
            have h1 := slot_env hw
            have h2 : (s.env.set i (some d'))[i]? = some (some d') := by rw [List.getElem?_set_self hi]
            rw [show (s.env.set i (some d'))[i]? = some (some w) from h1] at h2
            have : w = d' := by
              injection h2 with h2
              injection h2
            subst this
            have := own_owned hw
            rw [eo] at this
            cases this
          · refine ⟨?_, fun z => hj z.symm⟩
            rw [← own_env (s := s) (env := s.env.set i (some d')) (nm := .slot j) fun k hk => by
              cases hk
              rw [List.getElem?_set_ne hj]]
            exact hw
        have hact : ∀ j w, Act { s with env := s.env.set i (some d') } (.slot j) w → Act s (.slot j) w := fun j w hw => ⟨(hnew j w hw.1).1, hw.2⟩
        have nM : ¬ Ms φ Mo { s with env := s.env.set i (some d') } (φ (.slot i)) := fun z => by
          rcases z with z | ⟨nm', w, hw, ez⟩
          · exact P.rel.out _ _ act z
          · have hw' : Act s nm' w := by
              cases nm' with
              | slot j => exact hact j w hw
              | cell n => exact hw
              | fld n f => exact hw
            have := P.rel.inj nm' _ w x hw' act ez
            subst this
            exact (hnew i w hw.1).2 rfl
        have mv : Mv φ φ (Ms φ Mo s) (Ms φ Mo { s with env := s.env.set i (some d') }) H H s.sto.length s.sto.length := ⟨fun a o ea hn => ⟨ea, fun z => hn (Ms.env hact a z)⟩, fun _ _ => rfl, Nat.le_refl _⟩
        have cnt := ContAt.mv mv (fun _ e => e) (fun _ _ _ _ _ _ _ _ _ => rfl) (P.rel.cnt _ _ act)
        have rep := frz_rep nM (own_owned q) cnt q2 hv
        refine ⟨Mo, ⟨{ P.rel.toRel.env hact with len := by rw [P.rel.len]; exact (List.length_set ..).symm, slots := fun j w hw => ?_ }, P.fr.trans (Fr.env hact fun j hj => (hnew j _ hj).1), P.slots, P.fld⟩, rep.1, rep.2, Ms.env hact, rfl⟩
        by_cases hj : i = j
        · subst hj
          have : w = d' := by
            have h2 : (s.env.set i (some d'))[i]? = some (some d') := by rw [List.getElem?_set_self hi]
            rw [show (s.env.set i (some d'))[i]? = some (some w) from hw] at h2
            injection h2 with h2
            injection h2
          subst this
          obtain ⟨u, e1, e2⟩ := P.rel.slots i x en
          rw [if_pos (own_owned q)] at e2
          refine ⟨u, e1, ?_⟩
          rw [if_neg (by rw [eo]; exact Bool.false_ne_true), e2, ← hv]
          exact rep.1
        · have hw' : s.env[j]? = some (some w) := by
            rw [← List.getElem?_set_ne hj]
            exact hw
          obtain ⟨u, e1, e2⟩ := P.rel.slots j w hw'
          refine ⟨u, e1, ?_⟩
          by_cases ho : owned w = true
          · rw [if_pos ho] at e2 ⊢
            exact e2
          · rw [if_neg ho] at e2 ⊢
            exact Rep.mv mv _ _ e2
  · have e' : R.of (frz d) s = .ok d' s' := by
      rw [← e]
      cases d <;> first | rfl | exact absurd ⟨_, rfl⟩ hs
    have e2 : frz d = some d' ∧ s = s' := by
      cases q : frz d with
      | none =>
        rw [q] at e'
        cases e'
      | some y =>
        rw [q] at e'
        cases e'
        exact ⟨rfl, rfl⟩
    obtain ⟨e3, rfl⟩ := e2
    by_cases t : temp d = true
    · obtain ⟨a, hv, hm, k⟩ := vr.tmp t
      have fa := fr t a hv
      have nM : ¬ Ms φ (fun x => Mo x ∧ x ≠ a) s a := fun z => by
        rcases z with z | ⟨nm', w, hw, ez⟩
        · exact z.2 rfl
        · exact P.rel.out nm' w hw (by rw [ez]; exact hm)
      have mv : Mv φ φ (Ms φ Mo s) (Ms φ (fun x => Mo x ∧ x ≠ a) s) H H s.sto.length s.sto.length := ⟨fun b o ea hn => ⟨ea, fun z => hn (z.imp (fun q => q.1) id)⟩, fun _ _ => rfl, Nat.le_refl _⟩
      have rep := frz_rep nM (temp_owned t).1 (ContAt.mv mv (fun _ e => e) (fun _ _ _ _ _ _ _ _ _ => rfl) k) e3 hv
      exact ⟨_, P.let r0 fa, rep.1, rep.2, fun b z => z.imp (fun q => q.1) id, rfl⟩
    · have t' : temp d = false := by simpa using t
      obtain ⟨rfl, rep⟩ := vr.frzn e3 t'
      refine ⟨Mo, P, rep, ?_, fun _ z => z, rfl⟩
      cases d' <;> first | rfl | (cases t'; done) | (cases e3; done)
end
end TR
end

section
set_option Elab.async false
set_option linter.all false
set_option maxRecDepth 100000
/-! TrBi: built-in functions and methods. -/
namespace TR
open PySem L2
section
variable {c : Cz} {φ : Nm → Addr} {Mo : Addr → Prop} {s : St} {σ : L2.St} {H : Hp} {X : Cx}
/-! ### built-in functions by name -/
def rLenA (K : PySem.W.Frag) : List V → Hp → VK → Prop := fun xs H Q => ∃ x n, xs = [x] ∧ LenV K x H n ∧ Q (.int n) H
theorem vone {d : D} {vs : List V} (h : VRepL c φ Mo s H [d] vs) : ∃ v, vs = [v] ∧ VRep c φ Mo s H d v := by
  obtain ⟨v, ws, rfl, r, t⟩ := h
  rw [show ws = [] from t]
  exact ⟨v, rfl, r⟩
theorem vtwo {d e : D} {vs : List V} (h : VRepL c φ Mo s H [d, e] vs) : ∃ v w, vs = [v, w] ∧ VRep c φ Mo s H d v ∧ VRep c φ Mo s H e w := by
  obtain ⟨v, ws, rfl, r, t⟩ := h
  obtain ⟨w, us, rfl, r2, t2⟩ := t
  rw [show us = [] from t2]
  exact ⟨v, w, rfl, r, r2⟩
theorem len_ok (r : RelE c φ Mo s σ H) {d e : D} {v : V} (h : VRep c φ Mo s H d v) (eq : biD .len s [d] = some e) {Q : VK} (q : Told c σ φ Mo s H e Q) : rLenA c.K [v] H Q := by
  have eq' : (match cont s d with
    | some (.lst ds) => some (D.int ds.length)
    | some (.olst ds) => some (.int ds.length)
    | some (.tup ds) => some (.int ds.length)
    | some (.str z) => some (.int z.length)
    | some (.scr ns) => some (.int ns.length)
    | _ => none) = some e := eq
  split at eq'
  · rename_i e1
    cases eq'
    obtain ⟨p, vs, rfl, _, k, rr⟩ := contV r.toRel h e1
    exact ⟨_, _, rfl, .inl ⟨vs, SqL.of k, rfl⟩, by rw [rr.length]; exact told_int r q⟩
  · rename_i e1
    cases eq'
    obtain ⟨p, vs, rfl, k, rr⟩ := contV r.toRel h e1
    exact ⟨_, _, rfl, .inl ⟨vs, SqL.of k, rfl⟩, by rw [rr.length]; exact told_int r q⟩
  · rename_i e1
    cases eq'
    obtain ⟨p, vs, rfl, k, rr⟩ := tup_of (contV r.toRel h e1)
    exact ⟨_, _, rfl, .inr ⟨vs, k, rfl⟩, by rw [rr.length]; exact told_int r q⟩
  · rename_i e1
    cases eq'
    obtain ⟨rfl, kz⟩ := contV r.toRel h e1
    exact ⟨_, _, rfl, ⟨kz.line, rfl⟩, by rw [tx_len]; exact told_int r q⟩
  · rename_i ns e1
    cases eq'
    obtain ⟨p, rfl, k⟩ := contV r.toRel h e1
    refine ⟨_, _, rfl, .inl ⟨ns.map V.int, scr_sq k, rfl⟩, ?_⟩
    rw [List.length_map]
    exact told_int r q
  · cases eq'
/-- the signs of a text, one by one -/
def rListT : List V → Hp → VK → Prop := fun xs H Q => ∃ z : Str, xs = [.str z] ∧ z.length ≤ sizeLine ∧ ∀ l, H l = none → Q (.ref l) (upd H l (.lst (z.cps.toList.map fun n => V.str (tx [n]))))
theorem call_list_txt {X : Cx} (hc : X.calm = true) : CallR X (.type "list") rListT := by
  intro pins s σ H xs us Q I r h
  obtain ⟨z, e, hz, q⟩ := h
  subst e
  obtain ⟨u, eu, rx⟩ := vals1 r
  subst eu
  obtain ⟨t, et⟩ : ∃ t, u = Value.str z t := rx
  subst et
  refine PySem.call_list_str (I.ok.hd hc) z t (fun h' tk acc c' hk hS hi => ?_) hz
  have hl : acc.toList.length = z.cps.toList.length := by
    rw [Array.length_toList, Array.length_toList]
    exact hi.1
  have hv : Vals (z.cps.toList.map fun n => V.str (tx [n])) acc.toList := vals_of_at (by rw [List.length_map, hl]) fun j x w h1 h2 => by
    obtain ⟨n, v, e1, e2⟩ := hi.2 j w (by rw [← Array.getElem?_toList]; exact h2)
    rw [List.getElem?_map, Array.getElem?_toList, e1] at h1
    cases h1
    exact ⟨v, e2⟩
  have ok : ∀ H2, ObjOk X.prog X.w H2 h' s.heap.objs.size (.lst (z.cps.toList.map fun n => V.str (tx [n]))) := fun H2 => by
    refine ⟨?_, acc.toList, c', hv, ?_⟩
    · rw [List.length_map, Array.length_toList]
      exact hz
    · rw [Array.toArray_toList]
      exact hS
  exact ⟨.ref s.heap.objs.size, _, I.laid (t' := tk) hk (Nat.le_refl _) (ok _), rfl, q _ (I.hok.fresh (Nat.le_refl _))⟩
def rListA (K : PySem.W.Frag) : List V → Hp → VK → Prop := fun xs H Q => (∃ p ys, xs = [.ref p] ∧ (SqL K H p ys ∨ SqT K H p ys) ∧ ∀ l, H l = none → Q (.ref l) (upd H l (.lst ys))) ∨ rListT xs H Q
theorem repL_signs {M : Addr → Prop} {L : Nat} {zz : Tx} : ∀ {z : Tx}, (∀ n ∈ z, okT [n]) → RepL c φ M H L (z.map fun n => D.str [n]) (z.map fun n => V.str (tx [n]))
  | [], _ => rfl
  | n :: z, h => ⟨_, _, rfl, ⟨rfl, h n List.mem_cons_self⟩, repL_signs (zz := zz) fun m hm => h m (List.mem_cons_of_mem _ hm)⟩
theorem okT_one {z : Tx} {n : Nat} (h : okT z) (hn : n ∈ z) : okT [n] := ⟨by unfold lim; simp, fun m hm => by
  rw [List.mem_singleton] at hm
  subst hm
  exact h.2 _ hn⟩
theorem list_ok (r : RelE c φ Mo s σ H) {d e : D} {v : V} (h : VRep c φ Mo s H d v) (eq : biD .list s [d] = some e) {Q : VK} (q : Told c σ φ Mo s H e Q) : rListA c.K [v] H Q := by
  have eq' : (match cont s d with
    | some (.lst ds) => some (D.olst ds)
    | some (.olst ds) => some (.olst ds)
    | some (.tup ds) => some (.olst ds)
    | some (.str z) => some (.olst (z.map fun n => .str [n]))
    | _ => none) = some e := eq
  split at eq'
  · rename_i e1
    cases eq'
    obtain ⟨p, vs, rfl, _, k, rr⟩ := contV r.toRel h e1
    exact .inl ⟨p, vs, rfl, .inl (SqL.of k), fun l hl => told_lst r q rr hl⟩
  · rename_i e1
    cases eq'
    obtain ⟨p, vs, rfl, k, rr⟩ := contV r.toRel h e1
    exact .inl ⟨p, vs, rfl, .inl (SqL.of k), fun l hl => told_lst r q rr hl⟩
  · rename_i e1
    cases eq'
    obtain ⟨p, vs, rfl, k, rr⟩ := tup_of (contV r.toRel h e1)
    exact .inl ⟨p, vs, rfl, .inr k, fun l hl => told_lst r q rr hl⟩
  · rename_i z e1
    cases eq'
    obtain ⟨rfl, kz⟩ := contV r.toRel h e1
    refine .inr ⟨_, rfl, kz.line, fun l hl => ?_⟩
    rw [tx_list]
    exact told_lst r q (repL_signs (zz := z) fun n hn => okT_one kz hn) hl
  · cases eq'
def rDictA : List V → Hp → VK → Prop := fun xs H Q => ∃ (a : Addr) (kvs : List (Key × V)), xs = [.ref a] ∧ Rd H a (.dK kvs) ∧ ∀ p, H p = none → Q (.ref p) (upd H p (.dK kvs))
theorem dct_of (r : Rel c φ Mo s H) {d : D} {ds : List (Tx × D)} {v : V} (h : VRep c φ Mo s H d v) (e : asDct s d = some ds) : ∃ a vs, v = .ref a ∧ Rd H a (.dK vs) ∧ RepK c φ (Ms φ Mo s) H s.sto.length ds vs := by
  unfold asDct at e
  split at e
  · cases e
    rename_i e
    obtain ⟨a, vs, e1, _, e2, e3⟩ := contV r h e
    exact ⟨a, vs, e1, e2, e3⟩
  · cases e
    rename_i e
    obtain ⟨a, vs, e1, e2, e3⟩ := contV r h e
    exact ⟨a, vs, e1, .inl e2, e3⟩
  · cases e
theorem dict_ok (r : RelE c φ Mo s σ H) {d e : D} {v : V} (h : VRep c φ Mo s H d v) (eq : biD .dict s [d] = some e) {Q : VK} (q : Told c σ φ Mo s H e Q) : rDictA [v] H Q := by
  have eq' : (asDct s d).map D.odct = some e := eq
  rw [Option.map_eq_some_iff] at eq'
  obtain ⟨ds, e1, rfl⟩ := eq'
  obtain ⟨a, vs, rfl, k, rr⟩ := dct_of r.toRel h e1
  exact ⟨a, vs, rfl, k, fun l hl => told_dct r q rr hl⟩
def rMaxA : List V → Hp → VK → Prop := fun xs H Q => ∃ i j, xs = [.int i, .int j] ∧ Q (.int (if j > i then j else i)) H
def rMinA : List V → Hp → VK → Prop := fun xs H Q => ∃ i j, xs = [.int i, .int j] ∧ Q (.int (if j < i then j else i)) H
def rIntA : List V → Hp → VK → Prop := fun xs H Q => (∃ i, xs = [.int i] ∧ Q (.int i) H) ∨ ∃ k, xs = [.bl k] ∧ Q (.int (if k then 1 else 0)) H
theorem sum_ok (r : RelE c φ Mo s σ H) {d e : D} {v : V} (h : VRep c φ Mo s H d v) (eq : biD .sum s [d] = some e) {Q : VK} (q : Told c σ φ Mo s H e Q) : rSum c.K [v] H Q := by
  have eq' : ((asLst s d).bind intsD).map (fun ns => D.int ns.sum) = some e := eq
  rw [Option.map_eq_some_iff] at eq'
  obtain ⟨ns, e1, rfl⟩ := eq'
  rw [Option.bind_eq_some_iff] at e1
  obtain ⟨ds, e2, e3⟩ := e1
  obtain ⟨a, vs, rfl, k, rr⟩ := lst_of r.toRel h e2
  obtain ⟨e4, _⟩ := rr.intsD e3
  rw [e4] at k
  exact ⟨a, ns, rfl, SqL.of k, told_int r q⟩

/-! sorted texts -/
theorem tlt_eq : ∀ x y : Tx, tlt x y = Spec.ltCps x y
  | [], [] => rfl
  | [], _ :: _ => rfl
  | _ :: _, [] => rfl
  | a :: r, b :: t => by
    unfold tlt Spec.ltCps
    rw [tlt_eq r t]
theorem tlt_anti : ∀ x y : Tx, tlt x y = false → tlt y x = false → x = y
  | [], [], _, _ => rfl
  | [], _ :: _, h, _ => by cases h
  | _ :: _, [], _, h => by cases h
  | a :: r, b :: t, h, k => by
    have h' : (decide (a < b) || (a == b && tlt r t)) = false := h
    have k' : (decide (b < a) || (b == a && tlt t r)) = false := k
    rw [Bool.or_eq_false_iff] at h' k'
    have e : a = b := by
      have h1 := of_decide_eq_false h'.1
      have h2 := of_decide_eq_false k'.1
      omega
    subst e
    rw [beq_self_eq_true, Bool.true_and] at h' k'
    rw [tlt_anti r t h'.2 k'.2]
theorem tlt_total : ∀ x y : Tx, tlt x y = true → tlt y x = false
  | [], [], h => by cases h
  | [], _ :: _, _ => rfl
  | _ :: _, [], h => by cases h
  | a :: r, b :: t, h => by
    have h' : (decide (a < b) || (a == b && tlt r t)) = true := h
    show (decide (b < a) || (b == a && tlt t r)) = false
    rw [Bool.or_eq_true] at h'
    rcases h' with h' | h'
    · have := of_decide_eq_true h'
      rw [decide_eq_false (by omega : ¬ b < a), show (b == a) = false by simpa using (by omega : b ≠ a)]
      rfl
    · rw [Bool.and_eq_true] at h'
      have e : a = b := by simpa using h'.1
      subst e
      rw [decide_eq_false (by omega : ¬ a < a), tlt_total r t h'.2]
      simp
theorem tlt_trans : ∀ x y z : Tx, tlt y x = false → tlt z y = false → tlt z x = false
  | x, y, [], h, k => by
    cases x with
    | nil => rfl
    | cons a r =>
      cases y with
      | nil => cases h
      | cons b t => cases k
  | [], _, z :: u, _, _ => rfl
  | a :: r, [], _ :: _, h, _ => by cases h
  | a :: r, b :: t, e :: u, h, k => by
    have h' : (decide (b < a) || (b == a && tlt t r)) = false := h
    have k' : (decide (e < b) || (e == b && tlt u t)) = false := k
    show (decide (e < a) || (e == a && tlt u r)) = false
    rw [Bool.or_eq_false_iff] at h' k' ⊢
    have h1 := of_decide_eq_false h'.1
    have h2 := of_decide_eq_false k'.1
    refine ⟨decide_eq_false (by omega), ?_⟩
    cases q : (e == a) with
    | false => rfl
    | true =>
      have ea : e = a := by simpa using q
      have eb : b = a := by omega
      subst ea
      subst eb
      rw [beq_self_eq_true, Bool.true_and] at h' k'
      rw [Bool.true_and]
      exact tlt_trans r t u h'.2 k'.2
theorem insT_perm (x : Tx) : ∀ ys : List Tx, (insT x ys).Perm (x :: ys)
  | [] => .refl _
  | y :: r => by
    unfold insT
    split
    · exact ((insT_perm x r).cons y).trans (.swap x y r)
    · exact .refl _
theorem sortT_perm : ∀ xs : List Tx, (sortT xs).Perm xs
  | [] => .refl _
  | x :: r => (insT_perm x (sortT r)).trans ((sortT_perm r).cons x)
abbrev tle (a b : Tx) : Prop := tlt b a = false
theorem insT_sorted (x : Tx) : ∀ ys : List Tx, ys.Pairwise tle → (insT x ys).Pairwise tle
  | [], _ => List.pairwise_cons.mpr ⟨fun _ h => (by cases h), .nil⟩
  | y :: r, h => by
    obtain ⟨h1, h2⟩ := List.pairwise_cons.mp h
    unfold insT
    split
    · rename_i q
      refine List.pairwise_cons.mpr ⟨fun z hz => ?_, insT_sorted x r h2⟩
      rcases List.mem_cons.mp ((insT_perm x r).mem_iff.mp hz) with rfl | hz
      · exact tlt_total _ _ q
      · exact h1 z hz
    · rename_i q
      have q' : tlt y x = false := by simpa using q
      refine List.pairwise_cons.mpr ⟨fun z hz => ?_, h⟩
      rcases List.mem_cons.mp hz with rfl | hz
      · exact q'
      · exact tlt_trans x y z q' (h1 z hz)
theorem sortT_sorted : ∀ xs : List Tx, (sortT xs).Pairwise tle
  | [] => .nil
  | x :: r => insT_sorted x (sortT r) (sortT_sorted r)
theorem pair_of_rising : ∀ (l : List Str) (p : Str), PyProof.Rows.risingS p l = true → (p :: l).Pairwise fun a b => tle a.cps.toList b.cps.toList
  | [], p, _ => List.pairwise_cons.mpr ⟨fun _ h => (by cases h), .nil⟩
  | x :: r, p, h => by
    have h' : (!Spec.ltCps x.cps.toList p.cps.toList && PyProof.Rows.risingS x r) = true := h
    rw [Bool.and_eq_true] at h'
    have ih := pair_of_rising r x h'.2
    have q : tle p.cps.toList x.cps.toList := by
      show tlt x.cps.toList p.cps.toList = false
      rw [tlt_eq]
      simpa using h'.1
    refine List.pairwise_cons.mpr ⟨fun z hz => ?_, ih⟩
    rcases List.mem_cons.mp hz with rfl | hz
    · exact q
    · exact tlt_trans _ _ _ q ((List.pairwise_cons.mp ih).1 z hz)
theorem sorted_is {zs : List Tx} {ys : List Str} (hp : ys.Perm (zs.map tx)) (hs : PyProof.Rows.sortedS ys = true) : ys = (sortT zs).map tx := by
  have h1 : ys.Pairwise fun a b => tle a.cps.toList b.cps.toList := by
    cases ys with
    | nil => exact .nil
    | cons x r => exact pair_of_rising r x hs
  have h2 : ((sortT zs).map tx).Pairwise fun a b => tle a.cps.toList b.cps.toList := by
    rw [List.pairwise_map]
    exact (sortT_sorted zs).imp fun {a b} h => by
      rw [tx_list, tx_list]
      exact h
  refine List.Perm.eq_of_pairwise (fun a b _ _ p q => ?_) h1 h2 (hp.trans ((sortT_perm zs).map tx).symm)
  have e := tlt_anti b.cps.toList a.cps.toList p q
  rw [tx_of a, tx_of b, e]
def rSortA (K : PySem.W.Frag) : List V → Hp → VK → Prop := fun vs H Q => rSortedS K vs H Q ∨ (∃ (a : Addr) (kvs : List (Key × V)) (ks : List Str), vs = [.ref a] ∧ Rd H a (.dK kvs) ∧ kvs.map (·.1) = ks.map Sum.inr ∧ ks.length < 64 ∧
    ∀ ys p, ys.Perm ks → PyProof.Rows.sortedS ys = true → H p = none → Q (.ref p) (upd H p (.lst (ys.map V.str))))
theorem repK_keys {M : Addr → Prop} {L : Nat} : ∀ {ds : List (Tx × D)} {vs : List (Key × V)}, RepK c φ M H L ds vs → vs.map (·.1) = (ds.map (fun p => tx p.1)).map Sum.inr
  | [], vs, h => by
    rw [show vs = [] from h]
    rfl
  | (k, d) :: ds, vs, h => by
    obtain ⟨_, v, ws, rfl, _, t⟩ := h
    simp only [List.map_cons, repK_keys t]
theorem repK_okT {M : Addr → Prop} {L : Nat} : ∀ {ds : List (Tx × D)} {vs : List (Key × V)}, RepK c φ M H L ds vs → ∀ p ∈ ds, okT p.1
  | [], vs, h, p, hp => by cases hp
  | (k, d) :: ds, vs, h, p, hp => by
    obtain ⟨hk, v, ws, rfl, _, t⟩ := h
    rcases List.mem_cons.mp hp with rfl | hp
    · exact hk
    · exact repK_okT t p hp
theorem strs_list {M : Addr → Prop} {L : Nat} {zs : List Tx} (h : ∀ z ∈ zs, okT z) : RepL c φ M H L (zs.map D.str) (zs.map fun z => V.str (tx z)) := by
  induction zs with
  | nil => rfl
  | cons z r ih => exact ⟨_, _, rfl, ⟨rfl, h z List.mem_cons_self⟩, ih fun w hw => h w (List.mem_cons_of_mem _ hw)⟩
theorem sort_ok (r : RelE c φ Mo s σ H) {d e : D} {v : V} (h : VRep c φ Mo s H d v) (eq : biD .sorted s [d] = some e) {Q : VK} (q : Told c σ φ Mo s H e Q) : rSortA c.K [v] H Q := by
  have dct : ∀ kvs, asDct s d = some kvs → kvs.length < 64 → e = .olst ((sortT (kvs.map (·.1))).map .str) → rSortA c.K [v] H Q := fun kvs e1 hl ee => by
    obtain ⟨a, us, rfl, k, rr⟩ := dct_of r.toRel h e1
    refine .inr ⟨a, us, kvs.map (fun p => tx p.1), rfl, k, repK_keys rr, by rw [List.length_map]; exact hl, fun ys p hp hs hn => ?_⟩
    have ey : ys = (sortT (kvs.map (·.1))).map tx := sorted_is (by rw [List.map_map]; exact hp) hs
    subst ee
    rw [ey, List.map_map]
    refine told_lst r q (strs_list fun z hz => ?_) hn
    have := (sortT_perm _).mem_iff.mp hz
    rw [List.mem_map] at this
    obtain ⟨p', hp', rfl⟩ := this
    exact repK_okT rr p' hp'
  have eq' : (match cont s d with
    | some (.dct kvs) => if kvs.length < 64 then some (D.olst ((sortT (kvs.map (·.1))).map .str)) else none
    | some (.odct kvs) => if kvs.length < 64 then some (.olst ((sortT (kvs.map (·.1))).map .str)) else none
    | _ => match (asLst s d).bind strsD with
      | some zs => if zs.length < 64 then some (.olst ((sortT zs).map .str)) else none
      | none => none) = some e := eq
  split at eq'
  · rename_i kvs e1
    split at eq'
    · rename_i hl
      cases eq'
      exact dct kvs (by unfold asDct; rw [e1]) hl rfl
    · cases eq'
  · rename_i kvs e1
    split at eq'
    · rename_i hl
      cases eq'
      exact dct kvs (by unfold asDct; rw [e1]) hl rfl
    · cases eq'
  · split at eq'
    · rename_i zs e1
      split at eq'
      · rename_i hl
        cases eq'
        rw [Option.bind_eq_some_iff] at e1
        obtain ⟨ds, e2, e3⟩ := e1
        obtain ⟨a, vs, rfl, k, rr⟩ := lst_of r.toRel h e2
        obtain ⟨e4, e5⟩ := rr.strsD e3
        rw [e4] at k
        refine .inl ⟨a, zs.map tx, rfl, by rw [List.map_map]; exact SqL.of k, by rw [List.length_map]; exact hl, fun ys p hp hs hn => ?_⟩
        rw [sorted_is hp hs, List.map_map]
        refine told_lst r q (strs_list fun z hz => e5 z ((sortT_perm _).mem_iff.mp hz)) hn
      · cases eq'
    · cases eq'
end
end TR
end

section
set_option Elab.async false
set_option linter.all false
set_option maxRecDepth 100000
set_option autoImplicit false
/-! TrNum: numbers as texts, texts cut at two signs, lists turned about. -/
namespace TR
open PySem L2
theorem tx_showI (i : Int) : tx (showI i) = Str.ofString (toString i) := by
  refine TL.ext_tl ?_
  rw [TL.tl_ofString]
  show (tx (showI i)).cps.toList = _
  rw [tx_list]
  rfl
theorem showI_ok {i : Int} (h : 0 ≤ i ∧ i < 10000000000) : okT (showI i) := by
  have e := tx_showI i
  have hl : (showI i).length ≤ 10 := by
    rw [← tx_len (showI i), e]
    exact PySem.W.KT.len_num h.1 (by omega)
  refine ⟨Nat.le_trans hl (by decide), fun n hn => ?_⟩
  obtain ⟨m, rfl⟩ := Int.eq_ofNat_of_zero_le h.1
  have e2 := PySem.W.KIN.signs_num m
  rw [show (Str.ofString (toString ((m : Nat) : Int))) = tx (showI (m : Int)) from e.symm, tx_list] at e2
  rw [e2] at hn
  obtain ⟨ch, hch, rfl⟩ := List.mem_map.mp hn
  have r := PyProof.Rows.digit_range (Nat.isDigit_of_mem_toDigits (by decide) (by decide) hch)
  omega
theorem log_ok {i : Int} (h : 0 ≤ i ∧ i < 10000000000) : i.natAbs.log2 < 1920 := by
  by_cases z : i.natAbs = 0
  · rw [z]
    decide
  · rw [Nat.log2_lt z]
    have h1 : i.natAbs < 2 ^ 34 := by omega
    exact Nat.lt_of_lt_of_le h1 (Nat.pow_le_pow_right (by decide) (by decide))
theorem readI_is {z : Tx} {i : Int} (h : readI z = some i) : PySem.intText? (tx z) = some i ∧ (tx z).length ≤ 640 := by
  unfold readI at h
  split at h
  · rename_i q
    cases h
    have e := PySem.intText_digits (x := tx z) (by
      rw [tx_list]
      intro c hc
      have := List.all_eq_true.mp q.2.2 c hc
      simpa using this) (by rw [tx_list]; exact q.1) (by rw [tx_len]; omega)
    rw [tx_list] at e
    exact ⟨e, by rw [tx_len]; omega⟩
  · cases h
/-! split at two signs -/
theorem map_inj_tx {xs : List Str} {ys : List Tx} (h : xs.map (fun w : Str => w.cps.toList) = ys) : xs = ys.map tx := by
  rw [← h, List.map_map]
  refine (List.map_id' xs).symm.trans ?_
  refine List.map_congr_left fun w _ => ?_
  exact tx_of w
theorem split2_ne (a b : Nat) : ∀ z : Tx, split2 a b z ≠ []
  | [] => by intro h; cases h
  | [c] => by intro h; cases h
  | c :: d :: r => by
    unfold split2
    split
    · intro h
      cases h
    · split <;> (intro h; cases h)
theorem spl_two (a b : Nat) : ∀ (z acc : Tx), TL.spl [a, b] 0 acc z = match split2 a b z with
    | [] => []
    | w :: ws => (acc ++ w) :: ws
  | [], acc => by
    rw [TL.spl_nil]
    simp [split2]
  | [c], acc => by
    rw [TL.spl_miss (by simp [TL.pre]), TL.spl_nil]
    simp [split2]
  | c :: d :: r, acc => by
    by_cases h : c = a ∧ d = b
    · have hp : TL.pre [a, b] (c :: d :: r) = true := by
        unfold TL.pre
        simp [h.1, h.2]
      rw [TL.spl_hit hp]
      have e : split2 a b (c :: d :: r) = [] :: split2 a b r := by
        rw [split2, if_pos h]
      rw [e]
      show acc :: TL.spl [a, b] 1 [] (d :: r) = (acc ++ []) :: split2 a b r
      rw [TL.spl_pass, List.drop_one, List.tail_cons, spl_two a b r [], List.append_nil]
      cases q : split2 a b r with
      | nil => exact absurd q (split2_ne a b r)
      | cons w ws => rfl
    · have hp : TL.pre [a, b] (c :: d :: r) = false := by
        unfold TL.pre
        simpa using h
      rw [TL.spl_miss hp, spl_two a b (d :: r) (acc ++ [c])]
      have e : split2 a b (c :: d :: r) = match split2 a b (d :: r) with
        | [] => [[c]]
        | w :: ws => (c :: w) :: ws := by
        rw [split2, if_neg h] <;> rfl
      rw [e]
      cases q : split2 a b (d :: r) with
      | nil => exact absurd q (split2_ne a b (d :: r))
      | cons w ws =>
        show (acc ++ [c] ++ w) :: ws = (acc ++ c :: w) :: ws
        rw [List.append_assoc]
        rfl
theorem split2_is {a b : Nat} (ha : a < 128) (hb : b < 128) (z : Tx) : Txt.split (tx z) (tx [a, b]) = (split2 a b z).map tx := by
  refine map_inj_tx ?_
  have h := TL.split_spl (tx z) (tx [a, b]) (by show (tx [a, b]).cps.toList ≠ []; rw [tx_list]; intro q; cases q) (TL.kind_ok (by
    show (tx [a, b]).cps.all (· < 256) = true
    unfold tx
    rw [List.all_toArray]
    simp
    omega))
  have h2 : (Txt.split (tx z) (tx [a, b])).map (fun w : Str => w.cps.toList) = TL.spl (tx [a, b]).cps.toList 0 [] (tx z).cps.toList := h
  rw [h2, tx_list, tx_list, spl_two]
  cases q : split2 a b z with
  | nil => exact absurd q (split2_ne a b z)
  | cons w ws => simp
theorem split2_mem (a b : Nat) : ∀ (z w : Tx), w ∈ split2 a b z → (∀ n ∈ w, n ∈ z) ∧ w.length ≤ z.length
  | [], w, h => by
    have e : w = [] := by simpa [split2] using h
    rw [e]
    exact ⟨fun _ q => (by cases q), Nat.le_refl _⟩
  | [c], w, h => by
    have e : w = [c] := by simpa [split2] using h
    rw [e]
    exact ⟨fun _ q => q, Nat.le_refl _⟩
  | c :: d :: r, w, h => by
    rw [split2] at h
    split at h
    · rcases List.mem_cons.mp h with rfl | h
      · exact ⟨fun _ q => (by cases q), Nat.zero_le _⟩
      · obtain ⟨h1, h2⟩ := split2_mem a b r w h
        exact ⟨fun n hn => List.mem_cons_of_mem _ (List.mem_cons_of_mem _ (h1 n hn)), by simp only [List.length_cons]; omega⟩
    · split at h
      · rename_i q
        exact absurd q (split2_ne a b _)
      · rename_i w0 ws q
        have hr := fun v hv => split2_mem a b (d :: r) v (by rw [q]; exact hv)
        rcases List.mem_cons.mp h with rfl | h
        · obtain ⟨h1, h2⟩ := hr w0 List.mem_cons_self
          refine ⟨fun n hn => ?_, by simp only [List.length_cons] at h2 ⊢; omega⟩
          rcases List.mem_cons.mp hn with rfl | hn
          · exact List.mem_cons_self
          · exact List.mem_cons_of_mem _ (h1 n hn)
        · obtain ⟨h1, h2⟩ := hr w (List.mem_cons_of_mem _ h)
          exact ⟨fun n hn => List.mem_cons_of_mem _ (h1 n hn), Nat.le_succ_of_le h2⟩
end TR
end

section
set_option Elab.async false
set_option linter.all false
set_option maxRecDepth 100000
set_option autoImplicit false
/-! TrBm: built-in methods. -/
namespace TR
open PySem L2
section
variable {c : Cz} {φ φ0 : Nm → Addr} {Mo Mo0 : Addr → Prop} {s s0 s' : St} {σ : L2.St} {H H0 : Hp} {cl : Bool} {x d : D} {xv : V} {ds : List D} {vs : List V} {nm : Nm}
theorem mvput {L : Nat} {M : Addr → Prop} {a : Addr} {o : HO} (mem : M a) : Mv φ φ M M H (upd H a o) L L := ⟨fun b u h hn => by
  rw [upd_ne (fun z => hn (by rw [z]; exact mem))]
  exact ⟨h, hn⟩, fun _ _ => rfl, Nat.le_refl _⟩
/-- told from the start -/
abbrev Told0 (c : Cz) (cl : Bool) (σ : L2.St) (φ0 : Nm → Addr) (Mo0 : Addr → Prop) (s0 : St) (H0 : Hp) (s' : St) (d : D) (Q : VK) : Prop :=
  ∀ v φ' Mo' H', PostE c cl σ φ0 Mo0 s0 H0 φ' Mo' s' H' → VRep c φ' Mo' s' H' d v → freshV H0 d v → Q v H'
theorem own_olst (h : own s nm = some (.olst ds)) : Act s nm (.olst ds) := ⟨h, by intro z; cases z⟩
/-- a list of its own becomes another -/
theorem lput (P : PostE c cl σ φ0 Mo0 s0 H0 φ Mo s H) (e : own s nm = some (.olst ds)) {es : List D} {ws : List V} (r : RepL c φ (Ms φ Mo s) H s.sto.length es ws) :
    PostE c cl σ φ0 Mo0 s0 H0 φ Mo (putAt s nm (.olst es)) (upd H (φ nm) (.lst ws)) := by
  have po := putOk (d := .olst es) e rfl rfl
  have mem : Ms φ Mo s (φ nm) := .inr ⟨nm, _, own_olst e, rfl⟩
  have p := P.rel.put (o := .lst ws) po e rfl (by intro z; cases z) rfl (by intro z; cases z) ⟨ws, upd_same, RepL.mv (mvput mem) _ _ r⟩ (putAt_env e)
  exact P.trans p fun h => ⟨h, rfl⟩
theorem lcur (P : PostE c cl σ φ0 Mo0 s0 H0 φ Mo s H) (e : own s nm = some (.olst ds)) : ∃ ws, H (φ nm) = some (.lst ws) ∧ RepL c φ (Ms φ Mo s) H s.sto.length ds ws := P.rel.cnt nm _ (own_olst e)
theorem lms (P : PostE c cl σ φ0 Mo0 s0 H0 φ Mo s H) (e : own s nm = some (.olst ds)) (es : List D) : ∀ a, Ms φ Mo (putAt s nm (.olst es)) a ↔ Ms φ Mo s a := (putOk (d := .olst es) e rfl rfl).ms rfl (by intro z; cases z) e (by intro z; cases z)
theorem told_non {Q : VK} (q : Told0 c cl σ φ0 Mo0 s0 H0 s' .non Q) {φ' : Nm → Addr} {Mo' : Addr → Prop} {H' : Hp} (p : PostE c cl σ φ0 Mo0 s0 H0 φ' Mo' s' H') : Q .non H' := q .non φ' Mo' H' p rfl fun z => by cases z
def rBm (K : PySem.W.Frag) : Bm → V → List V → Hp → VK → Prop
  | .append => rAppend
  | .extend => rExtend
  | .insert => fun x vs H Q => ∃ (l : Addr) (xs : List V) (i : Int) (y : V), x = .ref l ∧ vs = [.int i, y] ∧ H l = some (.lst xs) ∧ xs.length < sizeLine ∧ 0 ≤ i ∧ i < 2 ^ 63 ∧ Q .non (upd H l (.lst (xs.take i.toNat ++ [y] ++ xs.drop i.toNat)))
  | .pop => rPop
  | .clear => rClear
  | .join => fun x xs H Q => ∃ a p, ∃ ys : List Str, x = .str a ∧ xs = [.ref p] ∧ (SqL K H p (ys.map V.str) ∨ SqT K H p (ys.map V.str)) ∧ (ys.map (·.length)).sum + ys.length * a.length ≤ 16777216 ∧ Q (.str (Txt.join a ys)) H
  | .split => fun x xs H Q => ∃ a b, x = .str a ∧ xs = [.str b] ∧ (b.length == 0) = false ∧ a.length + 2 ≤ sizeLine ∧ rNewStrs (Txt.split a b) H Q
  | .startswith => fun x xs H Q => ∃ (a b : Str) (i : Int), x = .str a ∧ xs = [.str b, .int i] ∧ Q (.bl (Txt.startswith3 a b i)) H
  | .index => rIndex K
  | _ => fun _ _ _ _ => False

/-! texts -/
theorem splitOn_ne (c : Nat) : ∀ z : Tx, splitOn c z ≠ []
  | [] => by intro h; cases h
  | a :: r => by
    unfold splitOn
    split
    · intro h
      cases h
    · split <;> (intro h; cases h)
theorem spl_one (c : Nat) : ∀ (z acc : Tx), TL.spl [c] 0 acc z = match splitOn c z with
    | [] => []
    | w :: ws => (acc ++ w) :: ws
  | [], acc => by
    rw [TL.spl_nil]
    simp [splitOn]
  | a :: r, acc => by
    by_cases h : a = c
    · have hp : TL.pre [c] (a :: r) = true := by
        unfold TL.pre
        simp [h]
      rw [TL.spl_hit hp]
      have e : splitOn c (a :: r) = [] :: splitOn c r := by
        show (if a = c then _ else _) = _
        rw [if_pos h]
      rw [e]
      show acc :: TL.spl [c] 0 [] r = (acc ++ []) :: splitOn c r
      rw [spl_one c r [], List.append_nil]
      cases q : splitOn c r with
      | nil => exact absurd q (splitOn_ne c r)
      | cons w ws => rfl
    · have hp : TL.pre [c] (a :: r) = false := by
        unfold TL.pre
        simp [h]
      rw [TL.spl_miss hp, spl_one c r (acc ++ [a])]
      have e : splitOn c (a :: r) = match splitOn c r with
        | [] => [[a]]
        | w :: ws => (a :: w) :: ws := by
        show (if a = c then _ else _) = _
        rw [if_neg h] <;> rfl
      rw [e]
      cases q : splitOn c r with
      | nil => exact absurd q (splitOn_ne c r)
      | cons w ws =>
        show (acc ++ [a] ++ w) :: ws = (acc ++ a :: w) :: ws
        rw [List.append_assoc]
        rfl
theorem split_is {c : Nat} (hc : c < 128) (z : Tx) : Txt.split (tx z) (tx [c]) = (splitOn c z).map tx := by
  refine map_inj_tx ?_
  have h := TL.split_spl (tx z) (tx [c]) (by show (tx [c]).cps.toList ≠ []; rw [tx_list]; intro q; cases q) (TL.kind_ok (by
    show (tx [c]).cps.all (· < 256) = true
    unfold tx
    rw [List.all_toArray]
    simp
    omega))
  have h2 : (Txt.split (tx z) (tx [c])).map (fun w : Str => w.cps.toList) = TL.spl (tx [c]).cps.toList 0 [] (tx z).cps.toList := h
  rw [h2, tx_list, tx_list, spl_one]
  cases q : splitOn c z with
  | nil => exact absurd q (splitOn_ne c z)
  | cons w ws => simp
theorem splitOn_mem (c : Nat) : ∀ (z w : Tx), w ∈ splitOn c z → (∀ n ∈ w, n ∈ z) ∧ w.length ≤ z.length
  | [], w, h => by
    have e : w = [] := by simpa [splitOn] using h
    rw [e]
    exact ⟨fun _ q => (by cases q), Nat.le_refl _⟩
  | a :: r, w, h => by
    have h' : w ∈ (if a = c then [] :: splitOn c r else match splitOn c r with
        | [] => [[a]]
        | w :: ws => (a :: w) :: ws) := h
    split at h'
    · rcases List.mem_cons.mp h' with rfl | h'
      · exact ⟨fun _ q => (by cases q), Nat.zero_le _⟩
      · obtain ⟨h1, h2⟩ := splitOn_mem c r w h'
        exact ⟨fun n hn => List.mem_cons_of_mem _ (h1 n hn), Nat.le_succ_of_le h2⟩
    · split at h'
      · rename_i q
        exact absurd q (splitOn_ne c r)
      · rename_i w0 ws q
        have hr := fun v hv => splitOn_mem c r v (by rw [q]; exact hv)
        rcases List.mem_cons.mp h' with rfl | h'
        · obtain ⟨h1, h2⟩ := hr w0 List.mem_cons_self
          refine ⟨fun n hn => ?_, by simp; exact h2⟩
          rcases List.mem_cons.mp hn with rfl | hn
          · exact List.mem_cons_self
          · exact List.mem_cons_of_mem _ (h1 n hn)
        · obtain ⟨h1, h2⟩ := hr w (List.mem_cons_of_mem _ h')
          exact ⟨fun n hn => List.mem_cons_of_mem _ (h1 n hn), Nat.le_succ_of_le h2⟩
theorem join_is (sep : Tx) : ∀ ws : List Tx, Txt.join (tx sep) (ws.map tx) = tx (joinT sep ws) := fun ws => by
  have h := TL.tl_join (tx sep) (ws.map tx)
  have key : ∀ ps : List Tx, TL.joinL sep ps = joinT sep ps := by
    intro ps
    induction ps with
    | nil => rfl
    | cons p r ih =>
      cases r with
      | nil => rfl
      | cons q t =>
        show p ++ (sep ++ TL.joinL sep (q :: t)) = p ++ sep ++ joinT sep (q :: t)
        rw [ih, List.append_assoc]
  rw [tx_of (Txt.join (tx sep) (ws.map tx))]
  have h2 : (Txt.join (tx sep) (ws.map tx)).cps.toList = TL.joinL (tx sep).cps.toList ((ws.map tx).map fun w : Str => w.cps.toList) := by
    rw [TL.join_eq]
    exact h
  rw [h2, tx_list, List.map_map]
  have e : ws.map ((fun w : Str => w.cps.toList) ∘ tx) = ws := by
    refine (List.map_congr_left fun w _ => ?_).trans (List.map_id' ws)
    exact tx_list w
  rw [e, key]
theorem joinT_mem (sep : Tx) : ∀ (ws : List Tx) (n : Nat), n ∈ joinT sep ws → n ∈ sep ∨ ∃ w ∈ ws, n ∈ w
  | [], _, h => by cases h
  | [w], n, h => .inr ⟨w, List.mem_cons_self, h⟩
  | w :: q :: t, n, h => by
    have h' : n ∈ w ++ sep ++ joinT sep (q :: t) := h
    rcases List.mem_append.mp h' with h' | h'
    · rcases List.mem_append.mp h' with h' | h'
      · exact .inr ⟨w, List.mem_cons_self, h'⟩
      · exact .inl h'
    · rcases joinT_mem sep (q :: t) n h' with z | ⟨v, hv, hn⟩
      · exact .inl z
      · exact .inr ⟨v, List.mem_cons_of_mem _ hv, hn⟩
theorem joinT_len (sep : Tx) : ∀ ws : List Tx, (ws.map (·.length)).sum + (ws.length - 1) * sep.length = (joinT sep ws).length
  | [] => by simp [joinT]
  | [w] => by simp [joinT]
  | w :: q :: t => by
    have ih := joinT_len sep (q :: t)
    have e : joinT sep (w :: q :: t) = w ++ sep ++ joinT sep (q :: t) := rfl
    rw [e, List.length_append, List.length_append, ← ih]
    simp only [List.map_cons, List.sum_cons, List.length_cons]
    have : (t.length + 1 + 1 - 1) * sep.length = (t.length + 1 - 1) * sep.length + sep.length := by
      rw [show t.length + 1 + 1 - 1 = (t.length + 1 - 1) + 1 by omega, Nat.add_mul, Nat.one_mul]
    omega
theorem pfx_is : ∀ w z : Tx, pfx w z = (z.take w.length == w)
  | [], z => by simp [pfx]
  | a :: r, [] => by simp [pfx]
  | a :: r, b :: t => by
    show (a == b && pfx r t) = _
    rw [pfx_is r t]
    simp only [List.length_cons, List.take_succ_cons]
    rw [Bool.eq_iff_iff]
    simp
    intro _
    exact ⟨fun h => h.symm, fun h => h.symm⟩
theorem starts_is (z w : Tx) (i : Int) (h0 : 0 ≤ i) (h1 : i ≤ z.length) : Txt.startswith3 (tx z) (tx w) i = pfx w (z.drop i.toNat) := by
  unfold Txt.startswith3
  have e : PySem.fromIndex (tx z).length i = i.toNat := by
    unfold PySem.fromIndex
    rw [if_neg (by omega), Int.max_eq_right h0]
  rw [e, StrLaws.subAt_eq, tx_list, tx_list, tx_len, tx_len, pfx_is]
  cases q : ((z.drop i.toNat).take w.length == w) with
  | false => simp
  | true =>
    have e2 := eq_of_beq q
    have l := congrArg List.length e2
    rw [List.length_take, List.length_drop] at l
    rw [Bool.and_true]
    exact decide_eq_true (by omega)
theorem idx_ok {M : Addr → Prop} {L : Nat} {w : V} (f : flat d = true) (rw_ : Rep c φ M H L d w) : ∀ {es : List D} {ws : List V} {j : Nat}, es.all flat = true → RepL c φ M H L es ws → idxOf d es = some j →
    ∃ z, ws[j]? = some z ∧ eqV z w = true ∧ ∀ (m : Nat) (z' : V), m < j → ws[m]? = some z' → eqV z' w = false
  | [], ws, j, _, _, e => by cases e
  | y :: r, ws, j, g, h, e => by
    obtain ⟨u, us, rfl, r1, r2⟩ := h
    rw [List.all_cons, Bool.and_eq_true] at g
    have e' : (if eqv 1 y d then some 0 else (idxOf d r).map (· + 1)) = some j := e
    have eu := eqV_rep g.1 f r1 rw_
    split at e'
    · rename_i q
      cases e'
      exact ⟨u, rfl, by rw [eu]; exact q, fun m z' hm => by omega⟩
    · rename_i q
      rw [Option.map_eq_some_iff] at e'
      obtain ⟨k, e1, rfl⟩ := e'
      obtain ⟨z, h1, h2, h3⟩ := idx_ok f rw_ g.2 r2 e1
      refine ⟨z, by simpa using h1, h2, fun m z' hm hz => ?_⟩
      cases m with
      | zero =>
        simp only [List.getElem?_cons_zero, Option.some.injEq] at hz
        subst hz
        rw [eu]
        simpa using q
      | succ m => exact h3 m z' (by omega) (by simpa using hz)

/-! ### the methods -/
theorem bm_ok (b : Bm) (P : PostE c cl σ φ0 Mo0 s0 H0 φ Mo s H) (r0 : ∀ a, Mo0 a → H0 a ≠ none) (vx : VRep c φ Mo s H x xv) (va : VRepL c φ Mo s H ds vs) (fa : freshL H0 ds vs) (e : bmD b s x ds = .ok d s') {Q : VK}
    (q : Told0 c cl σ φ0 Mo0 s0 H0 s' d Q) : rBm c.K b xv vs H Q := by
  have tail : ∀ {z : Tx}, d = .str z → s' = s → okT z → Q (.str (tx z)) H := fun {z} e1 e2 ok => by
    subst e1
    subst e2
    exact q _ φ Mo H P ⟨rfl, ok⟩ fun z => by cases z
  unfold bmD at e
  split at e
  · -- append
    rename_i y
    obtain ⟨yv, rfl, vy⟩ := vone va
    cases q1 : esc s y with
    | exc k fs t =>
      rw [q1] at e
      cases e
    | stuck =>
      rw [q1] at e
      cases e
    | ok y' s1 =>
      rw [q1] at e
      have e1 : (match nmOf x with
        | some nm => (match own s1 nm with
          | some (.olst xs) => if xs.length < lim then R.ok D.non (putAt s1 nm (.olst (xs ++ [y']))) else .stuck
          | _ => .stuck)
        | none => .stuck) = .ok d s' := e
      obtain ⟨Mo1, P1, ry, _, _, _⟩ := esc_ok P r0 vy fa.1 q1
      split at e1
      · rename_i nm hn
        have hx := vref P.rel.toRel hn vx
        split at e1
        · rename_i xs ho
          split at e1
          · rename_i hl
            cases e1
            obtain ⟨ws, hw, rw_⟩ := lcur P1 ho
            subst hx
            refine ⟨φ nm, ws, yv, rfl, rfl, hw, by rw [rw_.length]; exact lim_lt hl, ?_⟩
            exact told_non q (lput P1 ho (rw_.app (RepL.one ry)))
          · cases e1
        · cases e1
      · cases e1
  · -- extend
    rename_i y
    obtain ⟨yv, rfl, vy⟩ := vone va
    split at e
    · rename_i ys nm h1 hn
      have hx := vref P.rel.toRel hn vx
      split at e
      · rename_i xs ho
        split at e
        · rename_i hl
          cases e
          obtain ⟨p, us, rfl, k, rr⟩ := lst_of P.rel.toRel vy h1
          obtain ⟨ws, hw, rw_⟩ := lcur P ho
          subst hx
          refine ⟨φ nm, p, ws, us, rfl, rfl, hw, k, by rw [rw_.length, rr.length]; exact lim_line hl, ?_⟩
          exact told_non q (lput P ho (rw_.app rr))
        · cases e
      · cases e
    · cases e
  · -- insert
    rename_i i y
    obtain ⟨iv, yv, rfl, vi, vy⟩ := vtwo va
    have hi : iv = .int i := vi
    subst hi
    cases q1 : esc s y with
    | exc k fs t =>
      rw [q1] at e
      cases e
    | stuck =>
      rw [q1] at e
      cases e
    | ok y' s1 =>
      rw [q1] at e
      have e1 : (match nmOf x with
        | some nm => (match own s1 nm with
          | some (.olst xs) => if xs.length < lim ∧ 0 ≤ i ∧ i ≤ xs.length then R.ok D.non (putAt s1 nm (.olst (xs.take i.toNat ++ y' :: xs.drop i.toNat))) else .stuck
          | _ => .stuck)
        | none => .stuck) = .ok d s' := e
      obtain ⟨Mo1, P1, ry, _, _, _⟩ := esc_ok P r0 vy fa.2.1 q1
      split at e1
      · rename_i nm hn
        have hx := vref P.rel.toRel hn vx
        split at e1
        · rename_i xs ho
          split at e1
          · rename_i hl
            cases e1
            obtain ⟨ws, hw, rw_⟩ := lcur P1 ho
            subst hx
            have hlt : xs.length < 1000000 := hl.1
            refine ⟨φ nm, ws, i, yv, rfl, rfl, hw, by rw [rw_.length]; exact lim_lt hl.1, hl.2.1, by omega, ?_⟩
            refine told_non q (lput P1 ho ?_)
            rw [List.append_assoc]
            exact (rw_.take _).app ⟨yv, _, rfl, ry, rw_.drop _⟩
          · cases e1
        · cases e1
      · cases e1
  · -- pop
    rw [show vs = [] from va]
    split at e
    · rename_i nm hn
      have hx := vref P.rel.toRel hn vx
      split at e
      · rename_i xs ho
        split at e
        · rename_i y hy
          cases e
          obtain ⟨ws, hw, rw_⟩ := lcur P ho
          subst hx
          rw [List.getLast?_eq_getElem?] at hy
          obtain ⟨yv, h1, h2⟩ := rw_.get hy
          refine ⟨φ nm, ws, yv, rfl, rfl, hw, by rw [rw_.length]; exact h1, ?_⟩
          have rd : RepL c φ (Ms φ Mo s) H s.sto.length xs.dropLast ws.dropLast := by
            rw [List.dropLast_eq_take, List.dropLast_eq_take, rw_.length]
            exact rw_.take _
          have p := lput P ho rd
          have mem : Ms φ Mo s (φ nm) := .inr ⟨nm, _, own_olst ho, rfl⟩
          have po := putOk (d := .olst xs.dropLast) ho rfl rfl
          have h3 := Rep.mv (M' := Ms φ Mo (putAt s nm (.olst xs.dropLast))) (L' := (putAt s nm (.olst xs.dropLast)).sto.length) (Mv.put (o := .lst ws.dropLast) P.rel.toRel po mem (lms P ho _)) _ _ h2
          exact q _ _ _ _ p (VRep.of h3).1 fun z => by rw [(VRep.of h3).2] at z; cases z
        · cases e
      · cases e
    · cases e
  · -- clear
    rw [show vs = [] from va]
    split at e
    · rename_i nm hn
      have hx := vref P.rel.toRel hn vx
      split at e
      · rename_i xs ho
        cases e
        obtain ⟨ws, hw, rw_⟩ := lcur P ho
        subst hx
        refine ⟨φ nm, ws, rfl, rfl, hw, ?_⟩
        exact told_non q (lput P ho (es := []) (ws := []) rfl)
      · cases e
    · cases e
  · -- join
    rename_i y
    obtain ⟨yv, rfl, vy⟩ := vone va
    split at e
    · rename_i sep ws h1
      split at e
      · rename_i hl
        cases e
        rw [Option.bind_eq_some_iff] at h1
        obtain ⟨es, h2, h3⟩ := h1
        obtain ⟨p, us, rfl, k, rr⟩ := lst_of P.rel.toRel vy h2
        obtain ⟨e4, e5⟩ := rr.strsD h3
        obtain ⟨rfl, ks⟩ := vx
        rw [e4] at k
        refine ⟨tx sep, p, ws.map tx, rfl, rfl, .inl (by rw [List.map_map]; exact SqL.of k), ?_, ?_⟩
        · have l1 := joinT_len sep ws
          have e6 : (ws.map tx).map (·.length) = ws.map (·.length) := by
            rw [List.map_map]
            exact List.map_congr_left fun w _ => tx_len w
          rw [e6, List.length_map, tx_len]
          have h7 : (joinT sep ws).length ≤ 1000000 := hl.1
          have h8 : sep.length ≤ 1000000 := ks.1
          have h9 : ws.length * sep.length ≤ (ws.length - 1) * sep.length + sep.length := by
            cases ws.length with
            | zero => simp
            | succ n => rw [Nat.add_sub_cancel, Nat.add_mul, Nat.one_mul]; exact Nat.le_refl _
          omega
        · rw [join_is]
          refine tail rfl rfl ⟨hl.1, fun n hn => ?_⟩
          rcases joinT_mem sep ws n hn with z | ⟨w, hw, z⟩
          · exact ks.2 n z
          · exact (e5 w hw).2 n z
      · cases e
    · cases e
  · -- split
    rename_i k
    obtain ⟨yv, rfl, vy⟩ := vone va
    split at e
    · rename_i z
      cases e
      obtain ⟨rfl, kz⟩ := vx
      obtain ⟨rfl, kk⟩ := vy
      have hk : k < 128 := kk.2 k List.mem_cons_self
      refine ⟨tx z, tx [k], rfl, rfl, rfl, ?_, fun p hp => ?_⟩
      · rw [tx_len]
        have h1 : z.length ≤ 1000000 := kz.1
        have h2 : sizeLine = 16777216 := by decide
        omega
      · rw [split_is hk, List.map_map]
        have g := grow_tmp (Mo := Mo) (o := .lst ((splitOn k z).map (V.str ∘ tx))) hp
        have rl : RepL c φ (Ms φ Mo s) H s.sto.length ((splitOn k z).map D.str) ((splitOn k z).map (V.str ∘ tx)) := strs_list fun w hw => kz.sub (splitOn_mem k z w hw).2 (splitOn_mem k z w hw).1
        refine q _ _ _ _ (P.trans (PostE.grow (cl := true) P.rel g) fun h => ⟨h, rfl⟩) ⟨p, rfl, .inr rfl, _, upd_same, RepL.mv (g.fr (φ := φ) (s := s)).mv _ _ rl⟩ fun _ a ea => ?_
        cases ea
        exact none_back P.fr.dom hp
    · cases e
  · -- split at two
    rename_i k1 k2
    obtain ⟨yv, rfl, vy⟩ := vone va
    split at e
    · rename_i z
      cases e
      obtain ⟨rfl, kz⟩ := vx
      obtain ⟨rfl, kk⟩ := vy
      have hk1 : k1 < 128 := kk.2 k1 List.mem_cons_self
      have hk2 : k2 < 128 := kk.2 k2 (List.mem_cons_of_mem _ List.mem_cons_self)
      refine ⟨tx z, tx [k1, k2], rfl, rfl, rfl, ?_, fun p hp => ?_⟩
      · rw [tx_len]
        have h1 : z.length ≤ 1000000 := kz.1
        have h2 : sizeLine = 16777216 := by decide
        omega
      · rw [split2_is hk1 hk2, List.map_map]
        have g := grow_tmp (Mo := Mo) (o := .lst ((split2 k1 k2 z).map (V.str ∘ tx))) hp
        have rl : RepL c φ (Ms φ Mo s) H s.sto.length ((split2 k1 k2 z).map D.str) ((split2 k1 k2 z).map (V.str ∘ tx)) := strs_list fun w hw => kz.sub (split2_mem k1 k2 z w hw).2 (split2_mem k1 k2 z w hw).1
        refine q _ _ _ _ (P.trans (PostE.grow (cl := true) P.rel g) fun h => ⟨h, rfl⟩) ⟨p, rfl, .inr rfl, _, upd_same, RepL.mv (g.fr (φ := φ) (s := s)).mv _ _ rl⟩ fun _ a ea => ?_
        cases ea
        exact none_back P.fr.dom hp
    · cases e
  · -- startswith
    rename_i w i
    obtain ⟨wv, iv, rfl, vw, vi⟩ := vtwo va
    split at e
    · rename_i z
      split at e
      · rename_i hl
        cases e
        obtain ⟨rfl, kz⟩ := vx
        obtain ⟨rfl, kk⟩ := vw
        have hi : iv = .int i := vi
        subst hi
        refine ⟨tx z, tx w, i, rfl, rfl, ?_⟩
        rw [starts_is z w i hl.1 hl.2]
        exact q _ φ Mo H P rfl fun z => by cases z
      · cases e
    · cases e
  · -- index
    rename_i y
    obtain ⟨yv, rfl, vy⟩ := vone va
    split at e
    · rename_i ys h1
      split at e
      · rename_i hf
        rw [Bool.and_eq_true] at hf
        split at e
        · rename_i j hj
          cases e
          obtain ⟨p, us, rfl, k, rr⟩ := lst_of P.rel.toRel vx h1
          have ry := flat_vrep hf.1 vy
          obtain ⟨z, z1, z2, z3⟩ := idx_ok hf.1 ry hf.2 rr hj
          exact ⟨p, us, yv, j, z, rfl, rfl, SqL.of k, flat_rep hf.1 ry, flats_rep hf.2 rr, z1, z2, z3, q _ φ Mo H P rfl fun z => by cases z⟩
        · cases e
      · cases e
    · cases e
  · cases e
end
end TR
end

section
set_option Elab.async false
set_option linter.all false
set_option maxRecDepth 100000
set_option autoImplicit false
/-! TrRules: calls whose exceptions are wished for at the caller's slots. -/
namespace TR
open PySem L2 PySem.Spec PyProof.Rows
section
variable {X : Cx} {k : Nat} {f C : Addr} {fd : FuncData} {ps : List Str} {sp : Sp} {W : WX} {x m : Str} {p pos apos : Pos} {e o : Expr} {es : List Expr} {ta : TE} {t : TA}
abbrev CXX (X : Cx) : CXT := L2.CX X.prog X.w
theorem pe_callS0 (F : FnOk X.prog X.w X.K X.mg X.base (CXX X) k f fd ps sp) (hr : Room k X.A) (hg : Gl X x) (hm : X.mg x = some (.ref f)) (hk : PySem.W.keepIn X.K (.ref f) = true) (hb : Binds X.K fd ps []) (hx : ∀ σ, PassesAt (CXX X) X σ (WE W σ))
    (hdb : (x == ("__debug__" : Str)) = false) : PE X (.Call (.Name x p) [] [] pos) (tCallS sp (WE W) tNil) := by
  refine ⟨fun pins s σ H Q I h => ?_⟩
  refine wpAny_Call_Name_kw (ld_glob I hg hm ?_ hdb)
  exact PySem.W.callWith_K0 I.kIn hk (run_fnS (us := []) F hr hb (hx σ) I .nil h)
/-- a method's call, the class told by the run -/
def tMethD (OK : Addr → Sp → Prop) (m : Str) (E : L2.St → XK) (ta : TE) (t : TA) : TE := fun σ H Q => ta σ H fun x H1 => ∃ C sp a dx fs, OK C sp ∧ x = .ref a ∧ H1 a = some (.ins C dx fs) ∧ fs.lookup m = none ∧
  t σ H1 fun vs H2 => sp (x :: vs) H2 Q (E σ)
theorem pe_methD {OK : Addr → Sp → Prop} {pl : Sem Bool} (he : PE X o ta) (hOK : ∀ C sp, OK C sp → Cls X.K C ∧ ∃ f fd ps, Meth X.K C m f ∧ FnOk X.prog X.w X.K X.mg X.base (CXX X) k f fd ps sp ∧ Binds X.K fd ps []) (hr : Room k X.A) (hx : ∀ σ, PassesAt (CXX X) X σ (WE W σ)) (ha : PA X (e :: es) t)
    (hst : starEach (e :: es) X.env = (false, eval e X.env) :: starEach es X.env) (hpl : (backTo pos (starEach es X.env)).any (·.1) = false)
    (ht : eval (.Call (.Attribute o m apos) (e :: es) [] pos) X.env = (do
      let ov ← eval o X.env
      standAt apos.atName
      let (f, first) ← holding [ov] (getMethod ov m pl)
      callWith pos f first (backTo pos (starEach (e :: es) X.env)) (backToKw pos (keywordEach [] X.env)))) :
    PE X (.Call (.Attribute o m apos) (e :: es) [] pos) (tMethD OK m (WE W) ta t) := by
  refine ⟨fun pins s σ H Q I h => ?_⟩
  refine PySem.W.methodCall_KW (pl := pl) (thn (he.run pins s σ H _ I h) fun u s1 ⟨x, H1, I1, rx, C, sp, a, dx, fs, ok, ex, ea, l, q⟩ => ?_) ht
  obtain ⟨c, f, fd, ps, hm, F, hb⟩ := hOK C sp ok
  subst ex
  obtain rfl : u = Value.ref a := rx
  refine getmeth_ok I1 ea c hm l ?_
  refine PySem.W.callWith_K (first := [.ref a]) (h₀ := X.base) I.ok.mod.kin hm.kp (thn (ha.run pos pins s1 σ H1 _ I1 q) fun us s2 ⟨vs, H2, I2, r, q2⟩ => ⟨I2.kIn, ?_⟩) hst hpl
  exact run_fnS (us := .ref a :: us) (vs := .ref a :: vs) F hr hb (hx σ) I2 (.cons rfl r) q2
theorem pe_methD0 {OK : Addr → Sp → Prop} {pl : Sem Bool} (he : PE X o ta) (hOK : ∀ C sp, OK C sp → Cls X.K C ∧ ∃ f fd ps, Meth X.K C m f ∧ FnOk X.prog X.w X.K X.mg X.base (CXX X) k f fd ps sp ∧ Binds X.K fd ps []) (hr : Room k X.A) (hx : ∀ σ, PassesAt (CXX X) X σ (WE W σ))
    (ht : eval (.Call (.Attribute o m apos) [] [] pos) X.env = (do
      let ov ← eval o X.env
      standAt apos.atName
      let (f, first) ← holding [ov] (getMethod ov m pl)
      callWith pos f first (backTo pos (starEach [] X.env)) (backToKw pos (keywordEach [] X.env)))) :
    PE X (.Call (.Attribute o m apos) [] [] pos) (tMethD OK m (WE W) ta tNil) := by
  refine ⟨fun pins s σ H Q I h => ?_⟩
  refine PySem.W.methodCall_KW (pl := pl) (thn (he.run pins s σ H _ I h) fun u s1 ⟨x, H1, I1, rx, C, sp, a, dx, fs, ok, ex, ea, l, q⟩ => ?_) ht
  obtain ⟨c, f, fd, ps, hm, F, hb⟩ := hOK C sp ok
  subst ex
  obtain rfl : u = Value.ref a := rx
  refine getmeth_ok I1 ea c hm l ?_
  exact PySem.W.callWith_K0 (first := [.ref a]) I1.kIn hm.kp (run_fnS (us := [.ref a]) (vs := [.ref a]) F hr hb (hx σ) I1 (.cons rfl .nil) q)
theorem run_makeS {pins : List (Addr × Obj)} {σ : L2.St} {H : Hp} {s : Shared} {Q : VK} {us : List Value} {vs : List V} (M : Mk X.K C f) (F : FnOk X.prog X.w X.K X.mg X.base (CXX X) k f fd ps sp) (hr : Room (k + 1) X.A) (hb : Binds X.K fd ps [])
    (hx : ∀ σ, PassesAt (CXX X) X σ (WE W σ)) (I : Inv X pins σ H s) (r : Vals vs us)
    (h : ∀ x dx, H x = none → H dx = none → dx ≠ x → sp (.ref x :: vs) (upd (upd H dx (.own x)) x (.ins C dx [])) (fun v H2 => v = .non ∧ Q (.ref x) H2) (WE W σ)) :
    wpAny (model X.prog X.w) X.A (call (.ref C) us) (EP X pins σ Q) X.xe s := by
  have hq := h (s.heap.objs.size + 1) s.heap.objs.size (I.hok.fresh (Nat.le_succ _)) (I.hok.fresh (Nat.le_refl _)) (Nat.ne_of_lt (Nat.lt_succ_self _))
  have I2 := Inv.made (C := C) I
  have r2 : Vals (V.ref (s.heap.objs.size + 1) :: vs) (Value.ref (s.heap.objs.size + 1) :: us) := .cons rfl r
  have hl : (Value.ref (s.heap.objs.size + 1) :: us).length = ps.length := by
    have e := r2.length
    rw [F.len _ _ _ _ hq] at e
    exact e.symm
  have hb' := hb _ (Value.ref (s.heap.objs.size + 1) :: us) I2.kIn (by rw [List.append_nil]; exact hl)
  rw [List.append_nil] at hb'
  refine wpAny_call (make_map (f := f) I.kIn M.makes M.init (beq_iff_eq.mp M.fn) (codeAny_mono (F.run _ X.stack _ _ ⟨Value.ref (s.heap.objs.size + 1) :: us, []⟩ (Value.ref (s.heap.objs.size + 1) :: us) _ _ (WE W σ) (hr.make C us [])
    (I2.env0.make C us []) hb' r2 hq) fun r s' hq' => ?_))
  cases r with
  | error e => exact hx σ pins _ _ e s' I2 hq'
  | ok fl =>
    cases fl with
    | ret u =>
      obtain ⟨v, H', I3, rv, ev, q3⟩ := I2.after hq'
      subst ev
      exact ⟨rv, ⟨V.ref (s.heap.objs.size + 1), H', I3, rfl, q3⟩⟩
    | next => exact False.elim hq'
    | brk => exact False.elim hq'
    | cont => exact False.elim hq'
def tMakeW (C : Addr) (sp : Sp) (E : L2.St → XK) (t : TA) : TE := fun σ H Q => t σ H fun vs H1 => ∀ x dx, H1 x = none → H1 dx = none → dx ≠ x →
  sp (.ref x :: vs) (upd (upd H1 dx (.own x)) x (.ins C dx [])) (fun v H2 => v = .non ∧ Q (.ref x) H2) (E σ)
theorem pe_makeW (M : Mk X.K C f) (F : FnOk X.prog X.w X.K X.mg X.base (CXX X) k f fd ps sp) (hr : Room (k + 1) X.A) (hg : Gl X x) (hm : X.mg x = some (.ref C)) (hb : Binds X.K fd ps []) (hx : ∀ σ, PassesAt (CXX X) X σ (WE W σ))
    (ha : PA X (e :: es) t) (hdb : (x == ("__debug__" : Str)) = false) (he : starEach (e :: es) X.env = (false, eval e X.env) :: starEach es X.env) (hpl : (backTo pos (starEach es X.env)).any (·.1) = false) :
    PE X (.Call (.Name x p) (e :: es) [] pos) (tMakeW C sp (WE W) t) := by
  refine ⟨fun pins s σ H Q I h => ?_⟩
  refine wpAny_Call_Name_kw (ld_glob I hg hm ?_ hdb)
  refine PySem.W.callWith_K (h₀ := X.base) I.ok.mod.kin M.kp (thn (ha.run pos pins s σ H _ I h) fun us s1 ⟨vs, H1, I1, r, q⟩ => ⟨I1.kIn, ?_⟩) he hpl
  exact run_makeS M F hr hb hx I1 r q
theorem pe_makeW0 (M : Mk X.K C f) (F : FnOk X.prog X.w X.K X.mg X.base (CXX X) k f fd ps sp) (hr : Room (k + 1) X.A) (hg : Gl X x) (hm : X.mg x = some (.ref C)) (hb : Binds X.K fd ps []) (hx : ∀ σ, PassesAt (CXX X) X σ (WE W σ))
    (hdb : (x == ("__debug__" : Str)) = false) : PE X (.Call (.Name x p) [] [] pos) (tMakeW C sp (WE W) tNil) := by
  refine ⟨fun pins s σ H Q I h => ?_⟩
  refine wpAny_Call_Name_kw (ld_glob I hg hm ?_ hdb)
  exact PySem.W.callWith_K0 I.kIn M.kp (run_makeS (us := []) M F hr hb hx I .nil h)
/-- a class that is made without arguments, its __init__ being object's -/
structure Mk0 (K : PySem.W.Frag) (C : Addr) : Prop where
  makes : PySem.W.makesIn K C = true
  init : PySem.W.findIn K (.ref C) "__init__" = some (some (.builtin "object.__init__"))
  top : PySem.W.mroIn K C (.type "object") = some true
  kp : PySem.W.keepIn K (.ref C) = true
def tMk0 (C : Addr) : TE := fun _ H Q => ∀ x dx, H x = none → H dx = none → dx ≠ x → Q (.ref x) (upd (upd H dx (.own x)) x (.ins C dx []))
theorem typ_at {M : Model} {h : Heap} {y : Addr} {o : Obj} (ho : h.get? y = some o) (hc : o.cls = .ref C) : PySem.W.Looks M h (typeOf (.ref y)) (.ref C) :=
  (PySem.W.Looks.ld ho).andThen (by rw [hc]; exact .now)
set_option maxHeartbeats 4000000 in
theorem oi_call {P : Program} {w : World} {A : Around} {K : PySem.W.Frag} {y : Addr} {o : Obj} {s : Shared} {R : Result → Shared → Prop} (KX : K.In s.heap) (top : PySem.W.mroIn K C (.type "object") = some true) (ho : s.heap.get? y = some o)
    (hc : o.cls = .ref C) (q : R (.ok (.ret .none)) s) : codeAny (model P w) A (.call (.builtin "object.__init__") ⟨[.ref y], []⟩) R s := by
  have t1 : PySem.W.Looks (model P w) s.heap (typeOf (.ref y)) (.ref C) := typ_at ho hc
  have t2 : PySem.W.Looks (model P w) s.heap (isInstance (.ref y) (.type "object")) true := t1.andThen (PySem.W.looks_mroIn KX top)
  refine codeAny_call_builtin PySem.W.oi_plain PySem.W.entry_oi (PySem.W.check_slot PySem.W.oi_kind PySem.W.oi_split t2 (PySem.W.oi_args _) ?_)
  rw [PySem.W.oi_run]
  exact wpAny_pure q
theorem pe_make0 (M : Mk0 X.K C) (hg : Gl X x) (hm : X.mg x = some (.ref C)) (hdb : (x == ("__debug__" : Str)) = false) : PE X (.Call (.Name x p) [] [] pos) (tMk0 C) := by
  refine ⟨fun pins s σ H Q I h => ?_⟩
  refine wpAny_Call_Name_kw (ld_glob I hg hm ?_ hdb)
  refine PySem.W.callWith_K0 I.kIn M.kp (wpAny_call (make_map0 I.kIn M.makes M.init (fun self => PySem.W.Looks.of_pure (PySem.W.oi_bind self)) ?_))
  have I2 := Inv.made (C := C) I
  have hq := h (s.heap.objs.size + 1) s.heap.objs.size (I.hok.fresh (Nat.le_succ _)) (I.hok.fresh (Nat.le_refl _)) (Nat.ne_of_lt (Nat.lt_succ_self _))
  have e2 : ((s.heap.push PySem.W.emptyDict).push (PySem.W.instObj C s.heap.objs.size)).get? (s.heap.objs.size + 1) = some (PySem.W.instObj C s.heap.objs.size) := by
    have := Heap.get?_push_size (s.heap.push PySem.W.emptyDict) (o := PySem.W.instObj C s.heap.objs.size) rfl
    rwa [Heap.size_push] at this
  exact oi_call I2.kIn M.top e2 rfl ⟨rfl, V.ref (s.heap.objs.size + 1), _, I2, rfl, hq⟩
end
end TR
end

section
set_option Elab.async false
set_option linter.all false
set_option maxRecDepth 100000
set_option autoImplicit false
/-! TrHot: functions that are called within an except suite; they raise nothing. -/
namespace TR
open PySem L2 PySem.Spec PyProof.Rows
/-- nothing is raised -/
def noX : XK := fun _ _ _ => False
/-- what a function promises to a suite -/
structure FnHt (P : Program) (w : World) (K : PySem.W.Frag) (mg : Str → Option Value) (base : Heap) (k : Nat) (f : Addr) (fd : FuncData) (ps : List Str) (sp : Sp) : Prop where
  len : ∀ vs H Q, sp vs H Q noX → vs.length = ps.length
  run : ∀ (A : Around) (outer : List Env) (s : Shared) (H : Hp) (args : Args) (us : List Value) (vs : List V) (Q : VK),
    L2H.RoomH k A → Env0 P w K mg base A outer s H → BindsTo s fd args (ps.zip us) → Vals vs us → sp vs H Q noX →
      codeAny (model P w) A (.call (.ref f) args) (CR (L2.CX P w) outer P w H s Q noX) s
section
variable {X : Cx} {k : Nat} {f : Addr} {fd : FuncData} {ps : List Str} {sp : Sp} {x : Str} {p pos : Pos} {e : Expr} {es : List Expr} {t : TA}
theorem run_fnHt {pins : List (Addr × Obj)} {σ : L2.St} {H : Hp} {s : Shared} {Q : VK} {us : List Value} {vs : List V} (F : FnHt X.prog X.w X.K X.mg X.base k f fd ps sp) (hr : L2H.RoomH k X.A) (hb : Binds X.K fd ps [])
    (I : Inv X pins σ H s) (r : Vals vs us) (h : sp vs H Q noX) : wpAny (model X.prog X.w) X.A (call (.ref f) us) (EP X pins σ Q) X.xe s := by
  have b := hb s us I.kIn (by rw [List.append_nil, ← r.length]; exact F.len _ _ _ h)
  rw [List.append_nil] at b
  refine wpAny_call (codeAny_mono (F.run X.A X.stack s H ⟨us, []⟩ us vs Q hr I.env0 b r h) fun res s' hq => ?_)
  match res, hq with
  | .ok (.ret u), hq => exact I.after hq
  | .ok .next, hq => exact hq.elim
  | .ok .brk, hq => exact hq.elim
  | .ok .cont, hq => exact hq.elim
  | .error e, hq =>
    obtain ⟨_, _, _, _, _, _, _, _, _, _, _, _, z⟩ := hq
    exact z.elim
/-- a call without exceptions -/
def tCallH (sp : Sp) (t : TA) : TE := fun σ H Q => t σ H fun vs H1 => sp vs H1 Q noX
theorem pe_callHt0 (F : FnHt X.prog X.w X.K X.mg X.base k f fd ps sp) (hr : L2H.RoomH k X.A) (hg : Gl X x) (hm : X.mg x = some (.ref f)) (hk : PySem.W.keepIn X.K (.ref f) = true) (hb : Binds X.K fd ps [])
    (hdb : (x == ("__debug__" : Str)) = false) : PE X (.Call (.Name x p) [] [] pos) (tCallH sp tNil) :=
  ⟨fun pins s σ H Q I h => wpAny_Call_Name_kw (ld_glob I hg hm (PySem.W.callWith_K0 I.kIn hk (run_fnHt (us := []) F hr hb I .nil h)) hdb)⟩
theorem pe_callHt (F : FnHt X.prog X.w X.K X.mg X.base k f fd ps sp) (hr : L2H.RoomH k X.A) (hg : Gl X x) (hm : X.mg x = some (.ref f)) (hk : PySem.W.keepIn X.K (.ref f) = true) (hb : Binds X.K fd ps []) (ha : PA X (e :: es) t)
    (hdb : (x == ("__debug__" : Str)) = false) (he : starEach (e :: es) X.env = (false, eval e X.env) :: starEach es X.env) (hpl : (backTo pos (starEach es X.env)).any (·.1) = false) :
    PE X (.Call (.Name x p) (e :: es) [] pos) (tCallH sp t) := by
  refine ⟨fun pins s σ H Q I h => wpAny_Call_Name_kw (ld_glob I hg hm ?_ hdb)⟩
  exact PySem.W.callWith_K (h₀ := X.base) I.ok.mod.kin hk (thn (ha.run pos pins s σ H _ I h) fun us s1 ⟨vs, H1, I1, r, q⟩ => ⟨I1.kIn, run_fnHt F hr hb I1 r q⟩) he hpl
end
/-- the context of such a function's body -/
abbrev cxHt (P : Program) (w : World) (K : PySem.W.Frag) (mg : Str → Option Value) (base : Heap) (N : List Str) (qual : Str) (scope : Scope) (f : Addr) (cd : Value) (A : Around) (outer : List Env) (s : Shared) (H : Hp) (p : Addr × Obj) : Cx :=
  L2H.cxH (L2.CX P w) P w K mg base N qual scope f cd A outer s H noX p
section
variable {K : PySem.W.Frag} {mg : Str → Option Value} {base : Heap} {P : Program} {w : World}
/-- an object of the written part can be leaned on -/
theorem pin_base {A : Around} {outer : List Env} {s : Shared} {H : Hp} (e0 : Env0 P w K mg base A outer s H) {f : Addr} {o : Obj} (lk : K.lookup f = some o) (nc : ∀ v, o.data ≠ .cell v) : L2H.PinOk outer H s (f, o) := by
  have hb := e0.mod.kin _ _ lk
  refine ⟨(e0.bs _ _ hb).1, (e0.bs _ _ hb).2, fun hm => ?_, nc⟩
  have z := (e0.funs.mem hm).1
  rw [hb] at z
  cases z
theorem okH {x qual : Str} {st : Stmt} {f : Addr} {fd : FuncData} {N ps : List Str} {k : Nat} {sp : Sp} (F : Fun K x qual st f fd) (S : FnScope N ps (defScope st)) (len : ∀ vs H Q, sp vs H Q noX → vs.length = ps.length)
    (hbody : ∀ (cdv : Value) (A : Around) (outer : List Env) (s : Shared) (H : Hp) (vs : List V) (Q : VK) (p : Addr × Obj), L2H.RoomH k (A.deeper (envOfC qual (defScope st) s.heap.objs.size f cdv)) → sp vs H Q noX →
      ∃ t, PSs (cxHt P w K mg base N qual (defScope st) f cdv A outer s H p) (defBody st) t ∧ t { nx := fun _ H' => Q .non H', rt := Q } (L2.start N vs) H) : FnHt P w K mg base (k + 1) f fd ps sp := by
  obtain ⟨oc, od, kV, doc, pm, an, cdv, ct, osl, rfl, lk, hcd⟩ := F.ex
  refine ⟨len, fun A outer s H args us vs Q hr e0 hb r hsp => ?_⟩
  have hpin := pin_base e0 lk (fun v z => by cases z)
  have KX : K.In s.heap := e0.mod.kin.keeps fun b o e => (e0.bs b o e).1
  have nolim : s.heap.NoLimit := e0.mod.nolimit.keeps fun b o e => (e0.bs b o e).1
  have kinds : ∀ y ∈ ps.zip us, (defScope st).names.lookup y.1 = some .local ∨ ((defScope st).names.lookup y.1 = some .cell ∧ ((cellsFrom (s.heap.objs.size + 1) (defScope st).names []).lookup y.1).isSome = true) := by
    rintro ⟨y, v⟩ hy
    exact (S.par y (List.of_mem_zip hy).1).imp id fun q => ⟨q, PySem.W.cellsFrom_some _ _ _ (.inl q)⟩
  refine codeAny_call_function hr.depth (KX _ _ lk) rfl S.co S.gen rfl (PySem.W.codeRec_of KX hcd) (hb _ _ _ _ ?_)
  refine wpAny_newFunctionEnv_cells S.kind kinds fun env he s1 x => ?_
  subst he
  obtain ⟨t, ht, hq⟩ := hbody cdv A outer s H vs Q _ (hr.deeper _) hsp
  have I := L2H.inv_startH (CX := L2.CX P w) (E := noX) (qual := qual) (f := f) (cd := cdv) S hpin e0 (len _ _ _ hsp) r x
  refine ⟨nolim.keeps x.toInCall.keep, codeAny_func (wpAny_mono (ht.run [] s1 (L2.start N vs) H _ I hq) (fun fl s' hs => ?_) fun e s' hs => hs)⟩
  match fl, hs with
  | .ret u, ⟨v, σ', H', J, rv, q⟩ => exact ⟨v, H', J.os, J.bare, J.base, J.hok, rv, q⟩
  | .next, ⟨σ', H', J, q⟩ => exact ⟨V.non, H', J.os, J.bare, J.base, J.hok, rfl, q⟩
  | .brk, ⟨_, _, _, q⟩ => exact q.elim
  | .cont, ⟨_, _, _, q⟩ => exact q.elim
end
end TR
end

section
set_option Elab.async false
set_option linter.all false
set_option maxRecDepth 100000
set_option autoImplicit false
/-! TrIs: which Python text a term of the small language stands for; what a function promises. -/
namespace TR
open PySem L2
/-- the row's names and addresses -/
structure Nms where
  fn : Nat → Str
  mn : Nat → Str
  cn : Nat → Str
  gn : Nat → Str
  fa : Nat → Addr
  fdt : Nat → FuncData
  ps : Nat → List Str
  gf : Nat → Bool
def vis (sc : Scope) (x : Str) : Prop := Vis sc x ∧ (x == ("__debug__" : Str)) = false ∧ (x == ("__classdict__" : Str)) = false
def gl (sc : Scope) (x : Str) : Prop := sc.names.lookup x = some .globalImplicit ∧ (x == ("__debug__" : Str)) = false
def noSup : Expr → Prop
  | .Call (.Name id _) [] [] _ => (id != ("super" : Str)) = true
  | _ => True
def biName : Bi → Str
  | .len => "len" | .str => "str" | .int => "int" | .list => "list" | .dict => "dict" | .sorted => "sorted" | .max => "max" | .min => "min" | .sum => "sum" | .lrev => "list"
def bmName : Bm → Str
  | .append => "append" | .extend => "extend" | .insert => "insert" | .pop => "pop" | .clear => "clear" | .join => "join" | .split => "split" | .partition => "partition" | .startswith => "startswith" | .index => "index" | .get => "get" | .update => "update"
/-- the name of a class in a text -/
def icName (n : Nms) : Ic → Str
  | .own k => n.cn k
  | .verr => "ValueError"
  | .int => "int" | .bool => "bool" | .str => "str" | .list => "list" | .tuple => "tuple" | .dict => "dict"
/-- terms that may be a test -/
def tst : E → Bool
  | .cmp _ _ _ => true | .isN _ => true | .notN _ => true | .chn _ _ _ _ _ => true | .and _ _ => true | .or _ _ => true | .not _ => true
  | .call _ _ => true | .mth _ _ _ => true | .bm _ _ _ => true | .isi _ _ => true | .var _ => true | .bl _ => true | .fld _ _ => true
  | _ => false
def arity : Bi → Nat
  | .max => 2 | .min => 2 | _ => 1
/-- a name that is stored: a local one, or a cell of the def's own -/
def stv (own : Bool) (sc : Scope) (x : Str) : Prop := sc.names.lookup x = some .local ∨ (own = true ∧ sc.names.lookup x = some .cell)
def tgs : Tg → List Nat
  | .one i => [i]
  | .many is => is
/-- classes' names -/
def IsCs (n : Nms) (sc : Scope) : List Ic → List Expr → Prop
  | [], es => es = []
  | i :: is, es => ∃ q t, es = .Name (icName n i) q :: t ∧ gl sc (icName n i) ∧ IsCs n sc is t
/-- one class, or a tuple of classes -/
def IsC (c : Cz) (n : Nms) (sc : Scope) (cs : List Ic) (e : Expr) : Prop := (∃ i q, cs = [i] ∧ e = .Name (icName n i) q ∧ gl sc (icName n i)) ∨ ∃ es k q, cs ≠ [] ∧ e = .Tuple es k q ∧ es.length ≤ 1000 ∧ IsCs n sc cs es
/-- what an except suite may hold -/
def hotB : Bi → Bool
  | .len => true | .int => true | .str => true | _ => false
def hotE (hs : Nat → Bool) : E → Bool
  | .cons a r => hotE hs a && hotE hs r
  | .tup a => hotE hs a | .lst a => hotE hs a | .cel a => hotE hs a
  | .bin _ a b => hotE hs a && hotE hs b | .neg a => hotE hs a
  | .cmp _ a b => hotE hs a && hotE hs b | .isN a => hotE hs a | .notN a => hotE hs a | .chn _ _ a b d => hotE hs a && (hotE hs b && hotE hs d)
  | .and a b => hotE hs a && hotE hs b | .or a b => hotE hs a && hotE hs b | .not a => hotE hs a | .ife t a b => hotE hs t && (hotE hs a && hotE hs b)
  | .ix a i => hotE hs a && hotE hs i | .sl a lo hi => hotE hs a && (hotE hs lo && hotE hs hi) | .fld a _ => hotE hs a
  | .bi b a => hotB b && hotE hs a | .bm _ o a => hotE hs o && hotE hs a | .isi a _ => hotE hs a
  | .rpl _ o _ _ => hotE hs o
  | .call f a => hs f && hotE hs a | .mth _ _ _ => false | .mk _ _ => false | .mkc _ _ => false | .lc _ _ _ _ _ _ => false
  | _ => true
def hotS (hs : Nat → Bool) : S → Bool
  | .skip => true | .seq a b => hotS hs a && hotS hs b
  | .asg _ e => hotE hs e | .setIx a i e => hotE hs a && (hotE hs i && hotE hs e) | .setFld a _ e => hotE hs a && hotE hs e
  | .expr e => hotE hs e | .ret e => hotE hs e | .ifs t a b => hotE hs t && (hotS hs a && hotS hs b)
  | .brk => true | .cnt => true
  | _ => false
section
variable (c : Cz) (n : Nms) (N : List Str)
def IsNm (own : Bool) (sc : Scope) (i : Nat) (e : Expr) : Prop := ∃ x p, e = .Name x p ∧ N[i]? = some x ∧ stv own sc x
def IsNms (own : Bool) (sc : Scope) : List Nat → List Expr → Prop
  | [], es => es = []
  | i :: is, es => ∃ e t, es = e :: t ∧ IsNm N own sc i e ∧ IsNms own sc is t
/-- a target -/
def IsTg (own : Bool) (sc : Scope) : Tg → Expr → Prop
  | .one i, e => IsNm N own sc i e
  | .many is, e => ∃ es k p, e = .Tuple es k p ∧ IsNms N own sc is es
mutual
def IsE (sc : Scope) : E → Expr → Prop
  | .nil, _ => False
  | .cons _ _, _ => False
  | .non, e => ∃ j p, e = .Constant .none j p
  | .bl b, e => ∃ j p, e = .Constant (.bool b) j p
  | .int i, e => ∃ j p, e = .Constant (.int i) j p
  | .str z, e => okT z ∧ ∃ j p, e = .Constant (.str (tx z)) j p
  | .var i, e => ∃ x p, N[i]? = some x ∧ vis sc x ∧ e = .Name x p
  | .glob g, e => ∃ p, gl sc (n.gn g) ∧ e = .Name (n.gn g) p
  | .tup a, e => ∃ es k p, e = .Tuple es k p ∧ es.length ≤ 1000 ∧ IsA sc a es
  | .lst a, e => ∃ es p, e = .List es p ∧ es.length ≤ 1000 ∧ IsA sc a es
  | .dic0, e => ∃ p, e = .Dict [] [] p
  | .cel a, e => IsE sc a e
  | .bin o a b, e => ∃ ea eb p, e = .BinOp ea (boOp o) eb p ∧ IsE sc a ea ∧ IsE sc b eb
  | .neg a, e => ∃ ea p, e = .UnaryOp .USub ea p ∧ IsE sc a ea
  | .cmp o a b, e => ∃ ea eb p, e = .Compare ea [coOp o] [eb] p ∧ IsE sc a ea ∧ IsE sc b eb
  | .isN a, e => ∃ ea p j q, e = .Compare ea [.Is] [.Constant .none j q] p ∧ IsE sc a ea
  | .notN a, e => ∃ ea p j q, e = .Compare ea [.IsNot] [.Constant .none j q] p ∧ IsE sc a ea
  | .chn o1 o2 a b d, e => ∃ ea eb ed p, e = .Compare ea [coOp o1, coOp o2] [eb, ed] p ∧ IsE sc a ea ∧ IsE sc b eb ∧ IsE sc d ed ∧ (o1 = .lt ∨ o1 = .le) ∧ (o2 = .lt ∨ o2 = .le)
  | .and a b, e => tst a = true ∧ tst b = true ∧ ∃ ea eb r p, e = .BoolOp .And (ea :: eb :: r) p ∧ IsE sc a ea ∧ ((r = [] ∧ IsE sc b eb) ∨ (r ≠ [] ∧ (∃ b1 b2, b = .and b1 b2) ∧ IsE sc b (.BoolOp .And (eb :: r) p)))
  | .or a b, e => tst a = true ∧ tst b = true ∧ ∃ ea eb r p, e = .BoolOp .Or (ea :: eb :: r) p ∧ IsE sc a ea ∧ ((r = [] ∧ IsE sc b eb) ∨ (r ≠ [] ∧ (∃ b1 b2, b = .or b1 b2) ∧ IsE sc b (.BoolOp .Or (eb :: r) p)))
  | .not a, e => tst a = true ∧ ∃ ea p, e = .UnaryOp .Not ea p ∧ IsE sc a ea
  | .ife t a b, e => tst t = true ∧ ∃ et ea eb p, e = .IfExp et ea eb p ∧ IsE sc t et ∧ IsE sc a ea ∧ IsE sc b eb
  | .ix a i, e => ∃ ea ei p, e = .Subscript ea ei p ∧ IsE sc a ea ∧ IsE sc i ei
  | .sl a lo hi, e => ∃ ea l h q p, e = .Subscript ea (.Slice l h none q) p ∧ IsE sc a ea ∧ ((lo = .nil ∧ l = none) ∨ ∃ el, l = some el ∧ IsE sc lo el) ∧ ((hi = .nil ∧ h = none) ∨ ∃ eh, h = some eh ∧ IsE sc hi eh)
  | .fld a f, e => ∃ ea p, e = .Attribute ea (c.an f) p ∧ c.ha f = true ∧ noSup ea ∧ IsE sc a ea
  | .call f a, e => ∃ es p q, e = .Call (.Name (n.fn f) p) es [] q ∧ es.length < 20 ∧ n.gf f = true ∧ gl sc (n.fn f) ∧ IsA sc a es
  | .mth o m a, e => ∃ eo es p q, e = .Call (.Attribute eo (n.mn m) p) es [] q ∧ es.length < 20 ∧ noSup eo ∧ (p.endLine == q.line) = true ∧ IsE sc o eo ∧ IsA sc a es
  | .mk k a, e => ∃ es p q, e = .Call (.Name (n.cn k) p) es [] q ∧ es.length < 20 ∧ gl sc (n.cn k) ∧ IsA sc a es
  | .mkc k a, e => ∃ es p q, e = .Call (.Name (n.cn k) p) es [] q ∧ es.length < 20 ∧ gl sc (n.cn k) ∧ IsA sc a es
  | .bi b a, e => ∃ es p q, e = .Call (.Name (biName b) p) es [] q ∧ es.length = arity b ∧ gl sc (biName b) ∧ IsA sc a es
  | .bm b o a, e => ∃ eo es p q, e = .Call (.Attribute eo (bmName b) p) es [] q ∧ es.length < 20 ∧ noSup eo ∧ (p.endLine == q.line) = true ∧ IsE sc o eo ∧ IsA sc a es ∧ (es = [] ↔ (b = .pop ∨ b = .clear)) ∧ b ≠ .partition ∧ b ≠ .get ∧ b ≠ .update
  | .rpl (some w) o x y, e => ∃ eo k0 p0 p k1 p1 k2 p2 q p3, e = .BinOp (.Constant (.str (tx w)) k0 p0) .Add (.Call (.Attribute eo "replace" p) [.Constant (.str (tx [x])) k1 p1, .Constant (.str (tx [y])) k2 p2] [] q) p3 ∧
      okT w ∧ y < 128 ∧ x ≠ y ∧ noSup eo ∧ (p.endLine == q.line) = true ∧ IsE sc o eo
  | .rpl none o x y, e => ∃ eo k0 p0 q1 q2 p k1 p1 k2 p2 q, e = .Call (.Attribute (.Subscript eo (.Slice (some (.Constant (.int 1) k0 p0)) none none q1) q2) "replace" p) [.Constant (.str (tx [x])) k1 p1, .Constant (.str (tx [y])) k2 p2] [] q ∧
      y < 128 ∧ x ≠ y ∧ (p.endLine == q.line) = true ∧ IsE sc o eo
  | .isi a cs, e => ∃ ea ec p q, e = .Call (.Name "isinstance" p) [ea, ec] [] q ∧ (∀ k, .own k ∈ cs → c.hk k = true) ∧ gl sc "isinstance" ∧ IsC c n sc cs ec ∧ IsE sc a ea
  | .lc elt tg ow k a cond, e => ∃ ee et it ifs sc' p own, e = .ListComp ee [⟨et, it, ifs, 0⟩] sc' p ∧ ow = own.map (·.2) ∧ blkC N sc sc' own = true ∧ IsTg N false (relS sc' sc) tg et ∧ (∀ i ∈ tgs tg, i ∈ ow) ∧ IsI sc k a tg it ∧
      IsE (relS sc' sc) elt ee ∧ ((cond = .nil ∧ ifs = []) ∨ ∃ ec, tst cond = true ∧ ifs = [ec] ∧ IsE (relS sc' sc) cond ec)
def IsA (sc : Scope) : E → List Expr → Prop
  | .nil, es => es = []
  | .cons a r, es => ∃ e t, es = e :: t ∧ IsE sc a e ∧ IsA sc r t
  | _, _ => False
/-- what is walked -/
def IsI (sc : Scope) (k : Sk) : E → Tg → Expr → Prop
  | .cons a .nil, tg, e => (k = .it ∧ IsE sc a e) ∨ (k = .rng1 ∧ ∃ ea p q, e = .Call (.Name "range" p) [ea] [] q ∧ gl sc "range" ∧ IsE sc a ea) ∨
      (k = .enu ∧ (∃ is, tg = .many is) ∧ ∃ ea p q, e = .Call (.Name "enumerate" p) [ea] [] q ∧ gl sc "enumerate" ∧ IsE sc a ea)
  | .cons a (.cons b .nil), tg, e => (k = .rng2 ∧ ∃ ea eb p q, e = .Call (.Name "range" p) [ea, eb] [] q ∧ gl sc "range" ∧ IsE sc a ea ∧ IsE sc b eb)
  | _, _, _ => False
end
/-- an except clause's name and its slot -/
def nmSc (N : List Str) (sc : Scope) : Option Str → Option Nat → Prop
  | some y, some i => N[i]? = some y ∧ sc.names.lookup y = some .local
  | none, none => True
  | _, _ => False
def isLc : Expr → Bool
  | .ListComp _ _ _ _ => true | .SetComp _ _ _ _ => true | .DictComp _ _ _ _ _ => true | _ => false
mutual
/-- one statement -/
def IsS1 (sc : Scope) : S → Stmt → Prop
  | .skip, st => (∃ x j p p', st = .Expr (.Constant (.str x) j p) p') ∨ ∃ p, st = .Pass p
  | .seq _ _, _ => False
  | .asg i e, st => ∃ x px ee p, st = .Assign [.Name x px] ee p ∧ N[i]? = some x ∧ IsE c n N sc e ee ∧
      ((isLc ee = false ∧ stv true sc x) ∨ (sc.names.lookup x = some .local ∧ (px.line == ee.pos.line) = true ∧ ∃ elt tg ow k a cond, e = .lc elt tg ow k a cond ∧
        (match ee with | .ListComp _ _ s' _ => (s'.names.any fun (m, k) => m == x && (k == .local || k == .cell)) = false | _ => False)))
  | .asgT is e, st => ∃ es k q ee p, st = .Assign [.Tuple es k q] ee p ∧ IsNms N true sc is es ∧ isLc ee = false ∧ (∀ a b c, ee ≠ .Tuple a b c) ∧ IsE c n N sc e ee
  | .setIx a i e, st => ∃ ea ei ee q p, st = .Assign [.Subscript ea ei q] ee p ∧ IsE c n N sc a ea ∧ IsE c n N sc i ei ∧ IsE c n N sc e ee
  | .setFld a f e, st => ∃ ea ee q p, st = .Assign [.Attribute ea (c.an f) q] ee p ∧ c.ha f = true ∧ IsE c n N sc a ea ∧ IsE c n N sc e ee
  | .expr e, st => ∃ ee p, st = .Expr ee p ∧ isLc ee = false ∧ IsE c n N sc e ee
  | .ret e, st => (∃ ee p, st = .Return (some ee) p ∧ IsE c n N sc e ee) ∨ (e = .non ∧ ∃ p, st = .Return none p)
  | .ifs t a b, st => tst t = true ∧ ∃ et ba bb p, st = .If et ba bb p ∧ IsE c n N sc t et ∧ IsB sc a ba ∧ IsB sc b bb
  | .whl t b, st => tst t = true ∧ ∃ et bb p, st = .While et bb [] p ∧ IsE c n N sc t et ∧ IsB sc b bb
  | .fors tg k a b, st => ∃ et it bb p, st = .For et it bb [] p ∧ IsTg N true sc tg et ∧ IsI c n N sc k a tg it ∧ IsB sc b bb
  | .brk, st => ∃ p, st = .Break p
  | .cnt, st => ∃ p, st = .Continue p
  | .raise k a, st => c.hr k = true ∧ ∃ e es p q pos, st = .Raise (some (.Call (.Name (n.cn k) p) (e :: es) [] q)) none pos ∧ (e :: es).length < 20 ∧ gl sc (n.cn k) ∧ IsA c n N sc a (e :: es)
  | .tryS b k xi h, st => hotS c.hs h = true ∧ c.hx k = true ∧ ∃ body np xn b0 suite pos' pos, st = .Try body [.ExceptHandler (some (.Name (n.cn k) np)) xn (b0 :: suite) pos'] [] [] pos ∧ gl sc (n.cn k) ∧ nmSc N sc xn xi ∧ IsB sc b body ∧ IsB sc h (b0 :: suite)
/-- a block -/
def IsB (sc : Scope) : S → List Stmt → Prop
  | .skip, sts => sts = []
  | .seq a b, sts => ∃ st rest, sts = st :: rest ∧ IsS1 sc a st ∧ IsB sc b rest
  | _, _ => False
end
end

/-! ### what a function promises -/
def nref : D → Prop
  | .sref _ => False | .fref _ _ => False | _ => True
def OutF (c : Cz) (gc : Bool) (φ : Nm → Addr) (Mo : Addr → Prop) (sto : List D) (H : Hp) (r : R D) (Q : VK) (E : XK) : Prop := match r with
  | .ok d s' => ∀ v φ' Mo' H', nref d → Rel c φ' Mo' ⟨[], s'.sto⟩ H' → Fr φ Mo ⟨[], sto⟩ H φ' Mo' ⟨[], s'.sto⟩ H' → (gc = true → ∀ n f, φ' (.fld n f) = φ (.fld n f)) → VRep c φ' Mo' ⟨[], s'.sto⟩ H' d v → freshV H d v → Q v H'
  | .exc k fs s' => ∀ cls dx φ' Mo' H', Rel c φ' Mo' ⟨[], s'.sto⟩ H' → Fr φ Mo ⟨[], sto⟩ H φ' Mo' ⟨[], s'.sto⟩ H' → (gc = true → ∀ n f, φ' (.fld n f) = φ (.fld n f)) → ExcR c φ' Mo' ⟨[], s'.sto⟩ H' k fs cls dx → E cls dx H'
  | .stuck => False
/-- the frame but for the thing at x -/
structure Frx (x : Addr) (φ : Nm → Addr) (Mo : Addr → Prop) (s : St) (H : Hp) (φ' : Nm → Addr) (Mo' : Addr → Prop) (s' : St) (H' : Hp) : Prop where
  imm : ∀ a o, H a = some o → ¬ Ms φ Mo s a → H' a = some o
  new : ∀ a, Ms φ' Mo' s' a → Ms φ Mo s a ∨ H a = none
  outer : ∀ a, Mo a → Mo' a ∧ (a ≠ x → ∀ o, H a = some o → H' a = some o)
  fresh : ∀ a, Mo' a → Mo a ∨ H a = none
  cell : ∀ n, n < s.sto.length → φ' (.cell n) = φ (.cell n)
  len : s.sto.length ≤ s'.sto.length
  dom : ∀ a, H a ≠ none → H' a ≠ none
  hid : ∀ nm, own s' nm = some .hid → own s nm = some .hid ∧ φ' nm = φ nm
  fld : ∀ n f, φ' (.fld n f) = φ (.fld n f)
def OutI (c : Cz) (x : Addr) (φ : Nm → Addr) (Mo : Addr → Prop) (sto : List D) (H : Hp) (r : R D) (Q : VK) (E : XK) : Prop := match r with
  | .ok d s' => ∀ φ' Mo' H', temp d = true → Rel c φ' Mo' ⟨[], s'.sto⟩ H' → Frx x φ Mo ⟨[], sto⟩ H φ' Mo' ⟨[], s'.sto⟩ H' → ContAt c φ' (Ms φ' Mo' ⟨[], s'.sto⟩) H' s'.sto.length (.slot 0) d x → Q .non H'
  | .exc k fs s' => ∀ cls dx φ' Mo' H', Rel c φ' Mo' ⟨[], s'.sto⟩ H' → Frx x φ Mo ⟨[], sto⟩ H φ' Mo' ⟨[], s'.sto⟩ H' → ExcR c φ' Mo' ⟨[], s'.sto⟩ H' k fs cls dx → E cls dx H'
  | .stuck => False
def spF (c : Cz) (F : Fi) (gc : Bool) (f : Nat) : Sp := fun vs H Q E =>
  (∃ φ Mo sto ds, Rel c φ Mo ⟨[], sto⟩ H ∧ RepL c φ (Ms φ Mo ⟨[], sto⟩) H sto.length ds vs ∧ OutF c gc φ Mo sto H (F false f ds sto) Q E) ∨
  (∃ φ Mo sto ds k x ws dx, vs = V.ref x :: ws ∧ H x = some (.ins (c.ct k) dx []) ∧ c.hc k = true ∧ Mo x ∧ Rel c φ Mo ⟨[], sto⟩ H ∧ RepL c φ (Ms φ Mo ⟨[], sto⟩) H sto.length ds ws ∧ OutI c x φ Mo sto H (F true f (.oobj k [] :: ds) sto) Q E)

/-! ### what is known around a text -/
def blts : List Str := ["range", "enumerate", "len", "str", "int", "list", "dict", "sorted", "max", "min", "sum", "isinstance", "bool", "tuple", "ValueError"]
/-- what isinstance asks of an own class -/
structure InsF (K : PySem.W.Frag) (C : Addr) : Prop where
  ha : PySem.W.findIn K (.ref C) "__class__" = some (some (.builtin "object.__class__"))
  hn : PySem.W.specialIn K (.builtin "object.__class__") "__get__" = some (some (.builtin "getset_descriptor.__get__"))
  htk : PySem.W.takesIn K (.builtin "object.__class__") = some true
  hm : PySem.W.mroIn K C (.type "object") = some true
/-- the base list of ValueError -/
def veM : List Value := [.type "ValueError", .type "Exception", .type "BaseException", .type "object"]
/-- a class whose __init__ is ValueError's -/
structure TiC (K : PySem.W.Frag) (C0 : Addr) : Prop where
  sg : PySem.W.specialIn K (.ref C0) "__getattribute__" = some (some (.builtin "type.__getattribute__"))
  ty : PySem.W.typeIn K (.ref C0) = some (.type "type")
  rd : PySem.W.readsIn K C0 (.type "type") = true
  fc : PySem.W.findCls K (.ref C0) (.type "type") "__init__" = some (.val (.builtin "ValueError.__init__"))
/-- the text of an exception's __init__: its base's, then two fields -/
def iniT (bn x0 x1 x2 a1 a2 : Str) (b : List Stmt) : Prop := ∃ (m : Str) (j : Nat) (p1 p2 p3 p4 p5 p6 q1 q2 q3 q4 r1 r2 r3 r4 : Pos), (p2.endLine == p5.line) = true ∧
  b = [.Expr (.Call (.Attribute (.Name bn p1) "__init__" p2) [.Name x0 p3, .Constant (.str m) j p4] [] p5) p6, .Assign [.Attribute (.Name x0 q1) a1 q2] (.Name x1 q3) q4, .Assign [.Attribute (.Name x0 r1) a2 r2] (.Name x2 r3) r4]
structure IniF (K : PySem.W.Frag) (mg : Str → Option Value) (C : Addr) (a1 a2 : Str) (fI : Addr) (fd : FuncData) (x qual : Str) (st : Stmt) (x0 x1 x2 bn : Str) (C0 : Addr) : Prop where
  oex : OexC K C
  at_ : PySem.W.findIn K (.ref C) "__init__" = some (some (.ref fI))
  tyI : PySem.W.typeIn K (.ref fI) = some (.type "function")
  fun_ : Fun K x qual st fI fd
  sc : FnScope [x0, x1, x2] [x0, x1, x2] (defScope st)
  bind : Binds K fd [x0, x1, x2] []
  txt : iniT bn x0 x1 x2 a1 a2 (defBody st)
  v0 : vis (defScope st) x0
  v1 : vis (defScope st) x1
  v2 : vis (defScope st) x2
  gb : gl (defScope st) bn
  mb : mg bn = some (.ref C0)
  base : TiC K C0
/-- an exception's class -/
structure ExF (c : Cz) (n : Nms) (mg : Str → Option Value) (k : Nat) : Prop where
  xf : XfC c.K (c.ct k)
  xc : ExcC c.K (c.ct k)
  ty : PySem.W.typeIn c.K (.ref (c.ct k)) = some (.type "type")
  glo : mg (n.cn k) = some (.ref (c.ct k))
  noat : ∀ f, c.ha f = true → PySem.W.findIn c.K (.ref (c.ct k)) (c.an f) = some none
structure StF (T : Tb) (c : Cz) (n : Nms) (mg : Str → Option Value) : Prop where
  keep : ∀ f fd, T.fn f = some fd → PySem.W.keepIn c.K (.ref (n.fa f)) = true
  bind : ∀ f fd, T.fn f = some fd → Binds c.K (n.fdt f) (n.ps f) []
  gfn : ∀ f fd, T.fn f = some fd → n.gf f = true → mg (n.fn f) = some (.ref (n.fa f))
  cls : ∀ k, c.hc k = true → Cls c.K (c.ct k) ∧ mg (n.cn k) = some (.ref (c.ct k))
  natt : ∀ k f, c.hc k = true → c.ha f = true → NoAttr c.K (c.ct k) (c.an f)
  meth : ∀ k m f, c.hc k = true → T.mth k m = some f → Meth c.K (c.ct k) (n.mn m) (n.fa f) ∧ ∃ fd, T.fn f = some fd
  mak : ∀ k f, T.ini k = some (some f) → Mk c.K (c.ct k) (n.fa f) ∧ c.hc k = true ∧ ∃ fd, T.fn f = some fd
  glb : ∀ g d, T.glob g = some d → ∃ u v, mg (n.gn g) = some u ∧ RelV v u ∧ (∀ φ M H L, Rep c φ M H L d v)
  blt : ∀ x ∈ blts, mg x = none
  anin : ∀ f g, c.ha f = true → c.ha g = true → c.an f = c.an g → f = g
  anmn : ∀ f m, c.ha f = true → c.an f ≠ n.mn m
  mgc : ∀ m, T.mgc m = true → ∀ k f fd, T.mth k m = some f → T.fn f = some fd → fd.gc = true
  nd : ∀ f, (n.fn f == ("__debug__" : Str)) = false
  hotf : ∀ f fd, T.fn f = some fd → c.hs f = true → hotS c.hs fd.body = true
  mk0 : ∀ k, T.ini k = some none → Mk0 c.K (c.ct k) ∧ c.hc k = true
  anin0 : ∀ f, c.ha f = true → c.an f ≠ ""
  insf : ∀ k, c.hc k = true → InsF c.K (c.ct k)
  exf : ∀ k, c.hx k = true → ExF c n mg k
  exm : ∀ k k', c.hx k = true → c.hx k' = true → PySem.W.exmOne c.K (.ref (c.ct k)) (.ref (c.ct k')) = some (T.sub k k')
  exnS : ∀ k, c.hr k = true → T.exn k ≠ none
  exn0 : ∀ k, T.exn k = some [] → c.hx k = true ∧ PySem.W.excIn c.K (c.ct k) veM "ValueError.__new__" = true ∧ PySem.W.keepIn c.K (.ref (c.ct k)) = true
  exn2 : ∀ k ns, T.exn k = some ns → ns ≠ [] → c.hx k = true ∧ ∃ f1 f2, ns = [f1, f2] ∧ c.ha f1 = true ∧ c.ha f2 = true ∧ c.an f1 ≠ c.an f2 ∧ ∃ fI fd x qual st x0 x1 x2 bn C0, IniF c.K mg (c.ct k) (c.an f1) (c.an f2) fI fd x qual st x0 x1 x2 bn C0
  isV : ∀ k, c.hx k = true → PySem.W.kitOne c.K (.ref (c.ct k)) (.type "ValueError") = some (T.sub k 99)
  isO : ∀ k k', c.hk k = true → c.hk k' = true → PySem.W.kitOne c.K (.ref (c.ct k)) (.ref (c.ct k')) = some (T.sub k k')
  isF : ∀ k, c.hk k = true → ∀ t ∈ ["NoneType", "bool", "int", "str"], PySem.W.kitOne c.K (.type t) (.ref (c.ct k)) = some false
structure Gd (T : Tb) (F : Fi) (c : Cz) (n : Nms) (N : List Str) (sc : Scope) (W : Wx) (k : Nat) (X : Cx) (hot : Bool) : Prop where
  K_ : X.K = c.K
  N_ : X.N = N
  nd : N.Nodup
  sc_ : X.env.scope = sc
  kind : sc.kind = .function
  units : X.A.units + 64 < cLine
  kp : 0 < k
  calm : hot = false → X.calm = true
  room : hot = false → Room (k + 1) X.A
  pas : hot = false → ∀ σ, PassesAt (CXX X) X σ (WE W σ)
  own : hot = false → PassesOwn (model X.prog X.w) X.A X.env X.xe
  w0 : hot = true → W = fun _ _ _ _ => False
  roomH : L2H.RoomH (k + 1) X.A
  hok : ∀ f fd, T.fn f = some fd → c.hs f = true → FnHt X.prog X.w X.K X.mg X.base k (n.fa f) (n.fdt f) (n.ps f) (spF c F fd.gc f)
  fok : hot = false → ∀ f fd, T.fn f = some fd → FnOk X.prog X.w X.K X.mg X.base (CXX X) k (n.fa f) (n.fdt f) (n.ps f) (spF c F fd.gc f)
  st : StF T c n X.mg
end TR
end

section
set_option Elab.async false
set_option linter.all false
set_option maxRecDepth 100000
set_option autoImplicit false
/-! TrExp: each expression does what the evaluator says. -/
namespace TR
open PySem L2
def plainX : Expr → Bool
  | .Starred _ _ => false | .Slice _ _ _ _ => false | .Set _ _ _ => false | _ => true
theorem star_cons {e : Expr} {es : List Expr} {env : Env} (h : plainX e = true) : starEach (e :: es) env = (false, eval e env) :: starEach es env := by
  cases e <;> first | rfl | cases h
theorem behind_plain {e : Expr} {o : CmpOp} (h : plainX e = true) : behindInMarks o e = false := by
  cases e <;> first | rfl | cases h
theorem ix_plain {e : Expr} (h : plainX e = true) : PlainIx e := by
  intro o i
  cases e <;> first | rfl | cases h
theorem sup_plain {o : Expr} {m : Str} {env : Env} (h : noSup o) : attributeBase o m env (eval o env) = eval o env := by
  cases o with
  | Call f as ks p =>
    cases f with
    | Name id q =>
      cases as with
      | nil =>
        cases ks with
        | nil => exact abase_call h
        | cons k ks => rfl
      | cons a as => rfl
    | _ => rfl
  | _ => rfl
section
variable {T : Tb} {F : Fi} {c : Cz} {n : Nms} {N : List Str}
theorem IsE.plain {sc : Scope} : ∀ {ir : E} {e : Expr}, IsE c n N sc ir e → plainX e = true := by
  intro ir
  induction ir with
  | cel a ih => exact fun {e} h => ih h
  | rpl pre o x y ih =>
    intro e h
    cases pre with
    | none =>
      obtain ⟨_, _, _, _, _, _, _, _, _, _, _, rfl, _⟩ := h
      rfl
    | some w =>
      obtain ⟨_, _, _, _, _, _, _, _, _, _, rfl, _⟩ := h
      rfl
  | _ =>
    intro e h
    first
      | exact h.elim
      | (obtain ⟨j, p, rfl⟩ := h; rfl)
      | (obtain ⟨_, j, p, rfl⟩ := h; rfl)
      | (obtain ⟨x, p, _, _, rfl⟩ := h; rfl)
      | (obtain ⟨p, _, rfl⟩ := h; rfl)
      | (obtain ⟨p, rfl⟩ := h; rfl)
      | (obtain ⟨_, _, rfl, _⟩ := h; rfl)
      | (obtain ⟨_, _, _, rfl, _⟩ := h; rfl)
      | (obtain ⟨_, _, _, _, rfl, _⟩ := h; rfl)
      | (obtain ⟨_, _, _, _, _, rfl, _⟩ := h; rfl)
      | (obtain ⟨_, _, _, _, _, _, rfl, _⟩ := h; rfl)
      | (obtain ⟨_, _, _, _, _, _, _, rfl, _⟩ := h; rfl)
theorem IsA.star {sc : Scope} {env : Env} : ∀ {ir : E} {es : List Expr}, IsA c n N sc ir es → ∀ x ∈ starEach es env, x.1 = false := by
  intro ir
  induction ir with
  | nil =>
    intro es h
    rw [show es = [] from h]
    intro x hx
    cases hx
  | cons a r _ ih =>
    intro es h
    obtain ⟨e, t, rfl, h1, h2⟩ := h
    rw [star_cons h1.plain]
    intro x hx
    rcases List.mem_cons.mp hx with rfl | hx
    · rfl
    · exact ih h2 x hx
  | _ =>
    intro es h
    exact h.elim
theorem backTo_any {pos : Pos} {l : List (Bool × Sem Value)} (h : ∀ x ∈ l, x.1 = false) : (backTo pos l).any (·.1) = false := by
  rw [List.any_eq_false]
  intro x hx
  unfold backTo at hx
  rw [List.mem_map] at hx
  obtain ⟨⟨s, t⟩, hy, rfl⟩ := hx
  have := h _ hy
  simpa using this
theorem mcall_ok {o : Expr} {m : Str} {apos pos : Pos} {args : List Expr} {env : Env} (h : ∀ x ∈ starEach args env, x.1 = false) (hk : args.length < 20) (hs : noSup o) (hl : (apos.endLine == pos.line) = true) :
    eval (.Call (.Attribute o m apos) args [] pos) env = (do
      let ov ← eval o env
      standAt apos.atName
      let (f, first) ← holding [ov] (getMethod ov m (plainOf o env))
      callWith pos f first (backTo pos (starEach args env)) (backToKw pos (keywordEach [] env))) := by
  refine (mcall_of (kws := []) (sup_plain hs) fun ov => mcall_line ?_ hl).trans rfl
  unfold methodCallForm
  have e1 : (backTo pos (starEach args env)).all (fun x => !x.1) = true := by
    rw [List.all_eq_true]
    intro x hx
    have := List.any_eq_false.mp (backTo_any (pos := pos) h) x hx
    simpa using this
  rw [e1]
  show (true && true && decide (args.length + 0 + 0 < 30)) = true
  rw [decide_eq_true (by omega)]
  rfl
theorem few_ok {pos : Pos} {args : List Expr} {env : Env} (h : ∀ x ∈ starEach args env, x.1 = false) (hk : args.length < 20) : ((backTo pos (starEach args env)).all (fun x => !x.1) && (backToKw pos (keywordEach [] env)).all (fun x => x.1.isSome)
      && decide (args.length + ([] : List Keyword).length + (if ([] : List Keyword).isEmpty then 0 else 1) < 30)) = true := by
  have e1 : (backTo pos (starEach args env)).all (fun x => !x.1) = true := by
    rw [List.all_eq_true]
    intro x hx
    have := List.any_eq_false.mp (backTo_any (pos := pos) h) x hx
    simpa using this
  rw [e1]
  show (true && true && decide (args.length + 0 + 0 < 30)) = true
  rw [decide_eq_true (by omega)]
  rfl
variable {W : Wx} {X : Cx} {a b d t : E} {ea eb ed et : Expr} {p : Pos}
abbrev TE' (T : Tb) (F : Fi) (c : Cz) (W : Wx) (a : E) : TE := tE c W (a.calm T) (evE T F a)
/-! ### constants, names -/
theorem snd_c {d : D} {v : V} {ir : E} {e : Expr} (h : PE X e (tC v)) (he : ∀ s, evE T F ir s = .ok d s) (hv : ∀ φ M H L, Rep c φ M H L d v) : PE X e (TE' T F c W ir) := by
  refine PE.mono h fun σ H Q hq => ?_
  obtain ⟨φ, Mo, s, rel, h⟩ := hq
  rw [he s] at h
  have k := VRep.of (hv φ (Ms φ Mo s) H s.sto.length)
  exact h v φ Mo H (PostE.refl rel) k.1 fun z => by rw [k.2] at z; cases z
theorem snd_var {i : Nat} {x : Str} (hN : X.N[i]? = some x) (hv : vis X.env.scope x) : PE X (.Name x p) (TE' T F c W (.var i)) := by
  refine PE.mono (pe_var hN hv.1 hv.2.1 hv.2.2) fun σ H Q hq => ?_
  obtain ⟨φ, Mo, s, rel, h⟩ := hq
  rw [evE] at h
  cases q : s.env[i]? with
  | none =>
    rw [q] at h
    exact h.elim
  | some o =>
    rw [q] at h
    cases o with
    | none => exact h.elim
    | some d =>
      obtain ⟨v, e1, e2⟩ := rel.slots i d q
      by_cases ho : owned d = true
      · rw [if_pos ho] at e2
        have h3 : OutE c W ((E.var i).calm T) σ φ Mo s H (.ok (.sref i) s) Q := by
          cases d <;> first | (cases ho; done) | exact h.elim | exact h
        exact ⟨v, e1, h3 v φ Mo H (PostE.refl rel) e2 fun z => by cases z⟩
      · rw [if_neg ho] at e2
        have k := VRep.of e2
        have h3 : OutE c W ((E.var i).calm T) σ φ Mo s H (.ok d s) Q := by
          cases d <;> first | exact absurd rfl ho | exact h
        exact ⟨v, e1, h3 v φ Mo H (PostE.refl rel) k.1 fun z => by rw [k.2] at z; cases z⟩
/-! ### operators -/
theorem cond_ff {α : Prop} {b : Bool} (h : ¬ b = true) : b = false := by simpa using h
theorem not_stuck {cl : Bool} {σ : L2.St} {φ : Nm → Addr} {Mo : Addr → Prop} {s : St} {H : Hp} {q : Bool} {r : R D} {Q : VK} (h : OutE c W cl σ φ Mo s H (if q then .stuck else r) Q) : q = false ∧ OutE c W cl σ φ Mo s H r Q := by
  cases q with
  | true => exact h.elim
  | false => exact ⟨rfl, h⟩
theorem isF_calm {x : D} {cl : Bool} (h : (isF x && !cl) = false) : isF x = true → cl = true := fun e => by
  rw [e, Bool.true_and] at h
  simpa using h
theorem of_some {cl : Bool} {σ : L2.St} {φ : Nm → Addr} {Mo : Addr → Prop} {s s' : St} {H : Hp} {o : Option D} {Q : VK} (h : OutE c W cl σ φ Mo s H (R.of o s') Q) : ∃ d, o = some d ∧ OutE c W cl σ φ Mo s H (.ok d s') Q := by
  cases o with
  | none => exact h.elim
  | some d => exact ⟨d, rfl, h⟩
/-- told behind a step, told from the start -/
theorem told_of {cl : Bool} {σ : L2.St} {φ0 φ : Nm → Addr} {Mo0 Mo : Addr → Prop} {s0 s : St} {H0 H : Hp} {d : D} {Q : VK} (P : PostE c cl σ φ0 Mo0 s0 H0 φ Mo s H) (h : OutE c W cl σ φ0 Mo0 s0 H0 (.ok d s) Q) : Told c σ φ Mo s H d Q :=
  fun v Mo' H' p vr fr => h v φ Mo' H' (P.trans p fun h => ⟨h, rfl⟩) vr (fr.back P.fr.dom)
theorem snd_bin {o : Bo} (hK : X.K = c.K) (ha : PE X ea (TE' T F c W a)) (hb : PE X eb (TE' T F c W b)) : PE X (.BinOp ea (boOp o) eb p) (TE' T F c W (.bin o a b)) := by
  refine PE.mono (pe_op (op_bo o) ha hb) fun σ H Q hq => ?_
  obtain ⟨φ, Mo, s, rel, h⟩ := hq
  rw [evE] at h
  refine tE_of finE (PostE.refl (cl := true) rel) (fun e => ⟨rfl, (Bool.and_eq_true_iff.mp e).1⟩) h fun x xv φ1 Mo1 s1 H1 P1 v1 f1 h1 => ?_
  obtain ⟨hf, h1⟩ := not_stuck h1
  refine tE_of finE P1 (fun e => Bool.and_eq_true_iff.mp e) h1 fun y yv φ2 Mo2 s2 H2 P2 v2 f2 h2 => ?_
  obtain ⟨d, e, h2⟩ := of_some h2
  rw [hK]
  exact bo_ok o P2.rel (P2.vrep (isF_calm hf) v1) v2 e (told_of (P1.trans P2 fun e => Bool.and_eq_true_iff.mp e) h2)
theorem snd_neg (ha : PE X ea (TE' T F c W a)) : PE X (.UnaryOp .USub ea p) (TE' T F c W (.neg a)) := by
  refine PE.mono (pe_un un_neg ha) fun σ H Q hq => ?_
  obtain ⟨φ, Mo, s, rel, h⟩ := hq
  rw [evE] at h
  refine tE_of finE (PostE.refl (cl := true) rel) (fun e => ⟨rfl, e⟩) h fun x xv φ1 Mo1 s1 H1 P1 v1 f1 h1 => ?_
  cases x with
  | int i =>
    have e : xv = .int i := v1
    subst e
    exact ⟨i, rfl, told_int P1.rel (told_of P1 h1)⟩
  | _ => exact h1.elim
theorem of_map {cl : Bool} {σ : L2.St} {φ : Nm → Addr} {Mo : Addr → Prop} {s s' : St} {H : Hp} {o : Option Bool} {Q : VK} (h : OutE c W cl σ φ Mo s H (R.of (o.map D.bl) s') Q) : ∃ b, o = some b ∧ OutE c W cl σ φ Mo s H (.ok (.bl b) s') Q := by
  cases o with
  | none => exact h.elim
  | some d => exact ⟨d, rfl, h⟩
theorem repK_some {φ : Nm → Addr} {M : Addr → Prop} {H : Hp} {L : Nat} {z : Tx} : ∀ {kvs : List (Tx × D)} {us : List (Key × V)}, RepK c φ M H L kvs us → (valV us (.inr (tx z))).isSome = (kvs.map (·.1)).contains z
  | [], us, r => by
    rw [show us = [] from r]
    rfl
  | (g, d0) :: r, us, h => by
    obtain ⟨v0, w, ws, rfl, _, t⟩ := h
    by_cases hg : g = z
    · subst hg
      rw [valV_pos rfl]
      simp
    · rw [valV_neg (fun e => hg (tx_inj (Sum.inr.inj e))), repK_some t]
      have : (z == g) = false := by simpa using fun e : z = g => hg e.symm
      simp [List.contains_cons, this]
/-- two operands, one behind the other -/
theorem two_of {β : Type} {Fp : R β → Prop} {cl : Bool} {σ : L2.St} {φ : Nm → Addr} {Mo : Addr → Prop} {s : St} {H : Hp} {k : D → D → St → R β} {G : V → V → Hp → Prop} (fin : Fin' c W cl σ φ Mo s H Fp) (rel : RelE c φ Mo s σ H)
    (hcl : cl = true → a.calm T = true ∧ b.calm T = true)
    (h : Fp ((evE T F a s).bind fun x s => if isF x && !b.calm T then .stuck else (evE T F b s).bind fun y s => k x y s))
    (q : ∀ x s1 y s2 xv yv φ2 Mo2 H2, evE T F a s = .ok x s1 → evE T F b s1 = .ok y s2 → PostE c cl σ φ Mo s H φ2 Mo2 s2 H2 → VRep c φ2 Mo2 s2 H2 x xv → VRep c φ2 Mo2 s2 H2 y yv → Fp (k x y s2) → G xv yv H2) :
    TE' T F c W a σ H fun xv H1 => TE' T F c W b σ H1 fun yv H2 => G xv yv H2 := by
  refine ⟨φ, Mo, s, rel, ?_⟩
  cases ea' : evE T F a s with
  | stuck =>
    rw [ea'] at h
    exact (fin.ns h).elim
  | exc k' fs s1 =>
    rw [ea'] at h
    exact fun cls dx φ' Mo' H' P x => fin.exc k' fs s1 h cls dx φ' Mo' H' (P.weak fun e => (hcl e).1) x
  | ok x s1 =>
    rw [ea'] at h
    intro xv φ1 Mo1 H1 P1 v1 f1
    have hq : (isF x && !b.calm T) = false ∧ Fp ((evE T F b s1).bind fun y s => k x y s) := by
      cases q : (isF x && !b.calm T) with
      | true =>
        have h2 : Fp (if isF x && !b.calm T then .stuck else (evE T F b s1).bind fun y s => k x y s) := h
        rw [q] at h2
        exact (fin.ns h2).elim
      | false =>
        have h2 : Fp (if isF x && !b.calm T then .stuck else (evE T F b s1).bind fun y s => k x y s) := h
        rw [q] at h2
        exact ⟨rfl, h2⟩
    obtain ⟨hf, h1⟩ := hq
    refine ⟨φ1, Mo1, s1, P1.rel, ?_⟩
    cases eb' : evE T F b s1 with
    | stuck =>
      rw [eb'] at h1
      exact (fin.ns h1).elim
    | exc k' fs s2 =>
      rw [eb'] at h1
      exact fun cls dx φ' Mo' H' P2 x => fin.exc k' fs s2 h1 cls dx φ' Mo' H' (P1.trans P2 hcl) x
    | ok y s2 =>
      rw [eb'] at h1
      exact fun yv φ2 Mo2 H2 P2 v2 f2 => q x s1 y s2 xv yv φ2 Mo2 H2 ea' eb' (P1.trans P2 hcl) (P2.vrep (isF_calm hf) v1) v2 h1
theorem and_split {x y : Bool} (e : (x && y) = true) : x = true ∧ y = true := Bool.and_eq_true_iff.mp e
/-- a comparison: what is to be shown of it -/
theorem cmp_to {o : Co} {σ : L2.St} {H : Hp} {Q : VK} (h : TE' T F c W (.cmp o a b) σ H Q) : tOp (rCo c.K o) (TE' T F c W a) (TE' T F c W b) σ H Q ∨ (o = .inn ∧ tDIn (TE' T F c W a) (TE' T F c W b) σ H Q) ∨ (o = .nin ∧ tDNotIn (TE' T F c W a) (TE' T F c W b) σ H Q) := by
  obtain ⟨φ, Mo, s, rel, h⟩ := h
  rw [evE] at h
  by_cases hd : (o = .inn ∨ o = .nin) ∧ ∃ x s1 y s2, evE T F a s = .ok x s1 ∧ evE T F b s1 = .ok y s2 ∧ isDct s2 y = true
  · obtain ⟨ho, x0, s10, y0, s20, q1, q2, q3⟩ := hd
    have fin : ∀ {neg : Bool} {x y : D} {xv yv : V} {φ2 : Nm → Addr} {Mo2 : Addr → Prop} {s2 : St} {H2 : Hp}, PostE c ((E.cmp o a b).calm T) σ φ Mo s H φ2 Mo2 s2 H2 → VRep c φ2 Mo2 s2 H2 x xv → VRep c φ2 Mo2 s2 H2 y yv → isDct s2 y = true →
        ∀ {k : Bool}, inD s2 x y = some k → OutE c W ((E.cmp o a b).calm T) σ φ Mo s H (.ok (.bl (if neg then !k else k)) s2) Q → ∃ ad ov, yv = .ref ad ∧ DGet H2 ad xv ov ∧ Q (.bl (if neg then !ov.isSome else ov.isSome)) H2 := by
      intro neg x y xv yv φ2 Mo2 s2 H2 P v1 v2 hy k hk hq
      have key : ∀ kvs, asDct s2 y = some kvs → (∃ z, x = .str z ∧ k = (kvs.map (·.1)).contains z) → ∃ ad ov, yv = .ref ad ∧ DGet H2 ad xv ov ∧ Q (.bl (if neg then !ov.isSome else ov.isSome)) H2 := fun kvs e1 ⟨z, e2, e3⟩ => by
        subst e2
        obtain ⟨rfl, _⟩ := v1
        obtain ⟨ad, us, rfl, r1, r2⟩ := dct_of P.rel.toRel v2 e1
        refine ⟨ad, valV us (.inr (tx z)), rfl, .inl ⟨us, .inr (tx z), r1, rfl, rfl⟩, ?_⟩
        have ek : (valV us (.inr (tx z))).isSome = k := by
          rw [e3]
          exact repK_some r2
        rw [ek]
        exact told_bl P.rel (told_of P hq)
      unfold inD at hk
      unfold isDct at hy
      split at hk
      · rename_i e1
        rw [e1] at hy
        cases hy
      · rename_i kvs e1
        split at hk
        · rename_i z
          cases hk
          exact key kvs (by unfold asDct; rw [e1]) ⟨z, rfl, rfl⟩
        · cases hk
      · rename_i kvs e1
        split at hk
        · rename_i z
          cases hk
          exact key kvs (by unfold asDct; rw [e1]) ⟨z, rfl, rfl⟩
        · cases hk
      · rename_i h1 h2 h3
        split at hy
        · rename_i kvs e1
          exact absurd e1 (h2 kvs)
        · rename_i kvs e1
          exact absurd e1 (h3 kvs)
        · cases hy
    rcases ho with rfl | rfl
    · refine .inr (.inl ⟨rfl, two_of finE rel and_split h fun x s1 y s2 xv yv φ2 Mo2 H2 w1 w2 P v1 v2 hq => ?_⟩)
      rw [q1] at w1
      cases w1
      rw [q2] at w2
      cases w2
      obtain ⟨k, hk, hq⟩ := of_map hq
      exact fin (neg := false) P v1 v2 q3 hk hq
    · refine .inr (.inr ⟨rfl, two_of finE rel and_split h fun x s1 y s2 xv yv φ2 Mo2 H2 w1 w2 P v1 v2 hq => ?_⟩)
      rw [q1] at w1
      cases w1
      rw [q2] at w2
      cases w2
      obtain ⟨k, hk, hq⟩ := of_map hq
      have hk' : (inD s20 x0 y0).map (!·) = some k := hk
      rw [Option.map_eq_some_iff] at hk'
      obtain ⟨k', e1, rfl⟩ := hk'
      exact fin (neg := true) P v1 v2 q3 e1 hq
  · refine .inl (two_of finE rel and_split h fun x s1 y s2 xv yv φ2 Mo2 H2 w1 w2 P v1 v2 hq => ?_)
    obtain ⟨k, hk, hq⟩ := of_map hq
    refine co_ok o P.rel v1 v2 (fun ho => ?_) hk (told_bl P.rel (told_of P hq))
    cases q : isDct s2 y with
    | false => rfl
    | true => exact absurd ⟨ho, x, s1, y, s2, w1, w2, q⟩ hd
/-! ### tests -/
abbrev TT' (T : Tb) (F : Fi) (c : Cz) (W : Wx) (a : E) : TT := tT c W (a.calm T) fun s => asB (evE T F a s)
theorem tT_tB {cl : Bool} {r : St → R D} {σ : L2.St} {H : Hp} {Q : Bool → Hp → Prop} (h : tT c W cl (fun s => asB (r s)) σ H Q) : tE c W cl r σ H fun x H1 => ∃ k, x = .bl k ∧ Q k H1 := by
  obtain ⟨φ, Mo, s, rel, h⟩ := h
  refine ⟨φ, Mo, s, rel, ?_⟩
  show OutE c W cl σ φ Mo s H (r s) _
  have h : OutT c W cl σ φ Mo s H (asB (r s)) Q := h
  cases e : r s with
  | stuck =>
    rw [e] at h
    exact h.elim
  | exc k fs s1 =>
    rw [e] at h
    exact h
  | ok d s1 =>
    rw [e] at h
    cases d with
    | bl k => exact fun v φ' Mo' H' P vr _ => ⟨k, vr, h φ' Mo' H' P⟩
    | _ => exact h.elim
theorem asB_bind {β : Type} (r : R D) (k : Bool → St → R β) : (asB r).bind k = r.bind fun d s => match d with
    | .bl b => k b s
    | _ => .stuck := by
  cases r with
  | ok d s => cases d <;> rfl
  | exc _ _ _ => rfl
  | stuck => rfl
def isBool : Expr → Bool
  | .BoolOp _ _ _ => true
  | _ => false
/-- an expression does what the evaluator says -/
structure Snd (T : Tb) (F : Fi) (c : Cz) (W : Wx) (X : Cx) (a : E) (e : Expr) : Prop where
  pe : PE X e (TE' T F c W a)
  pt : tst a = true → PT X e (TT' T F c W a)
  pw : isBool e = true → tst a = true → PW X e (TT' T F c W a)
theorem pt_of (h : PE X ea (TE' T F c W a)) (he : ∀ whole, isTrue ea X.env whole = (do let v ← whole; standAt ea.pos; holding [v] (truthy v))) : PT X ea (TT' T F c W a) := by
  refine PT.mono (pt_val h he) fun σ H Q hq => tT_tB hq
theorem Snd.val (h : PE X ea (TE' T F c W a)) (he : ∀ whole, isTrue ea X.env whole = (do let v ← whole; standAt ea.pos; holding [v] (truthy v))) (hb : isBool ea = false) : Snd T F c W X a ea :=
  ⟨h, fun _ => pt_of h he, fun q _ => by rw [hb] at q; cases q⟩
theorem Snd.noT (h : PE X ea (TE' T F c W a)) (ht : tst a = false) : Snd T F c W X a ea :=
  ⟨h, fun q => (by rw [ht] at q; cases q), fun _ q => (by rw [ht] at q; cases q)⟩
theorem snd_cmp {o : Co} (hK : X.K = c.K) (hu : X.A.units + 64 < cLine) (hp : plainX eb = true) (ha : PE X ea (TE' T F c W a)) (hb : PE X eb (TE' T F c W b)) : Snd T F c W X (.cmp o a b) (.Compare ea [coOp o] [eb] p) := by
  refine ⟨⟨fun pins st σ H Q I hq => ?_⟩, fun _ => ⟨fun pins st σ H Q I hq => ?_⟩, fun q _ => (by cases q)⟩
  · rcases cmp_to hq with h | ⟨rfl, h⟩ | ⟨rfl, h⟩
    · exact (pe_cmpR (op_co hu o) ha hb (behind_plain hp)).run pins st σ H Q I (by rw [hK]; exact h)
    · exact (pe_cmp (pc_din (by omega) ha hb) (behind_plain hp)).run pins st σ H Q I h
    · exact (pe_cmp (pc_dnotin (by omega) ha hb) (behind_plain hp)).run pins st σ H Q I h
  · rcases cmp_to (tT_tB hq) with h | ⟨rfl, h⟩ | ⟨rfl, h⟩
    · exact (pt_cmpR (op_co hu o) ha hb (behind_plain hp)).run pins st σ H Q I (by rw [hK]; exact h)
    · exact (pt_cmp (pc_din (by omega) ha hb) (behind_plain hp)).run pins st σ H Q I h
    · exact (pt_cmp (pc_dnotin (by omega) ha hb) (behind_plain hp)).run pins st σ H Q I h
theorem non_iff {φ : Nm → Addr} {Mo : Addr → Prop} {s : St} {H : Hp} {d : D} {v : V} (h : VRep c φ Mo s H d v) : decide (v = .non) = isNon d := by
  cases d with
  | non =>
    rw [show v = .non from h]
    rfl
  | bl b =>
    rw [show v = _ from h]
    rfl
  | int b =>
    rw [show v = _ from h]
    rfl
  | str z =>
    rw [show v = _ from h.1]
    rfl
  | tup _ =>
    obtain ⟨_, _, rfl, _⟩ := h
    rfl
  | lst _ =>
    obtain ⟨_, _, rfl, _⟩ := h
    rfl
  | dct _ =>
    obtain ⟨_, _, rfl, _⟩ := h
    rfl
  | obj _ _ =>
    obtain ⟨_, _, _, _, rfl, _⟩ := h
    rfl
  | loc _ =>
    rw [show v = _ from h.2]
    rfl
  | scr _ =>
    obtain ⟨_, rfl, _⟩ := h
    rfl
  | olst _ =>
    obtain ⟨_, rfl, _⟩ := h
    rfl
  | odct _ =>
    obtain ⟨_, rfl, _⟩ := h
    rfl
  | oobj _ _ =>
    obtain ⟨_, rfl, _⟩ := h
    rfl
  | sref _ =>
    rw [show v = _ from h]
    rfl
  | fref _ _ =>
    rw [show v = _ from h]
    rfl
  | hid => exact False.elim h
  | dead => exact False.elim h
  | exc _ _ =>
    obtain ⟨_, _, _, rfl, _⟩ := h
    rfl
theorem isN_to {σ : L2.St} {H : Hp} {Q : VK} (h : TE' T F c W (.isN a) σ H Q) : tIsN (TE' T F c W a) σ H Q := by
  obtain ⟨φ, Mo, s, rel, h⟩ := h
  rw [evE] at h
  refine tE_of finE (PostE.refl (cl := true) rel) (fun e => ⟨rfl, e⟩) h fun x xv φ1 Mo1 s1 H1 P1 v1 f1 h1 => ?_
  rw [non_iff v1]
  exact told_bl P1.rel (told_of P1 h1)
theorem notN_to {σ : L2.St} {H : Hp} {Q : VK} (h : TE' T F c W (.notN a) σ H Q) : tNotN (TE' T F c W a) σ H Q := by
  obtain ⟨φ, Mo, s, rel, h⟩ := h
  rw [evE] at h
  refine tE_of finE (PostE.refl (cl := true) rel) (fun e => ⟨rfl, e⟩) h fun x xv φ1 Mo1 s1 H1 P1 v1 f1 h1 => ?_
  rw [non_iff v1]
  exact told_bl P1.rel (told_of P1 h1)
theorem snd_isN {j : Nat} {q : Pos} (ha : PE X ea (TE' T F c W a)) : Snd T F c W X (.isN a) (.Compare ea [.Is] [.Constant .none j q] p) :=
  ⟨PE.mono (pe_cmp (pc_isN ha)) fun σ H Q h => isN_to h, fun _ => PT.mono (pt_cmp (pc_isN ha)) fun σ H Q h => isN_to (tT_tB h), fun q _ => (by cases q)⟩
theorem snd_notN {j : Nat} {q : Pos} (ha : PE X ea (TE' T F c W a)) : Snd T F c W X (.notN a) (.Compare ea [.IsNot] [.Constant .none j q] p) :=
  ⟨PE.mono (pe_cmp (pc_notN ha)) fun σ H Q h => notN_to h, fun _ => PT.mono (pt_cmp (pc_notN ha)) fun σ H Q h => notN_to (tT_tB h), fun q _ => (by cases q)⟩
end
end TR
end

section
set_option Elab.async false
set_option linter.all false
set_option maxRecDepth 100000
set_option autoImplicit false
/-! TrExp2: tests, places, slices, fields, displays. -/
namespace TR
open PySem L2
section
variable {T : Tb} {F : Fi} {c : Cz} {n : Nms} {N : List Str}
variable {W : Wx} {X : Cx} {a b d t : E} {ea eb ed et : Expr} {p : Pos}
theorem tail_of {cl cl1 cl2 : Bool} {r : St → R D} {σ : L2.St} {φ0 φ1 : Nm → Addr} {Mo0 Mo1 : Addr → Prop} {s0 s1 : St} {H0 H1 : Hp} {Q : VK} (P : PostE c cl1 σ φ0 Mo0 s0 H0 φ1 Mo1 s1 H1) (hc : cl = true → cl1 = true ∧ cl2 = true)
    (h : OutE c W cl σ φ0 Mo0 s0 H0 (r s1) Q) : tE c W cl2 r σ H1 Q := by
  refine ⟨φ1, Mo1, s1, P.rel, ?_⟩
  cases e : r s1 with
  | stuck =>
    rw [e] at h
    exact h.elim
  | exc k fs s2 =>
    rw [e] at h
    exact fun cls dx φ' Mo' H' P2 x => h cls dx φ' Mo' H' (P.trans P2 hc) x
  | ok d s2 =>
    rw [e] at h
    exact fun v φ' Mo' H' P2 vr fr => h v φ' Mo' H' (P.trans P2 hc) vr (fr.back P.fr.dom)
theorem tailT_of {cl cl1 cl2 : Bool} {r : St → R Bool} {σ : L2.St} {φ0 φ1 : Nm → Addr} {Mo0 Mo1 : Addr → Prop} {s0 s1 : St} {H0 H1 : Hp} {Q : Bool → Hp → Prop} (P : PostE c cl1 σ φ0 Mo0 s0 H0 φ1 Mo1 s1 H1) (hc : cl = true → cl1 = true ∧ cl2 = true)
    (h : OutT c W cl σ φ0 Mo0 s0 H0 (r s1) Q) : tT c W cl2 r σ H1 Q := by
  refine ⟨φ1, Mo1, s1, P.rel, ?_⟩
  cases e : r s1 with
  | stuck =>
    rw [e] at h
    exact h.elim
  | exc k fs s2 =>
    rw [e] at h
    exact fun cls dx φ' Mo' H' P2 x => h cls dx φ' Mo' H' (P.trans P2 hc) x
  | ok d s2 =>
    rw [e] at h
    exact fun φ' Mo' H' P2 => h φ' Mo' H' (P.trans P2 hc)
theorem told_at {cl1 : Bool} {σ : L2.St} {φ0 φ : Nm → Addr} {Mo0 Mo : Addr → Prop} {s0 s : St} {H0 H : Hp} {k : Bool} {Q : VK} (cl : Bool) (P : PostE c cl1 σ φ0 Mo0 s0 H0 φ Mo s H) (hc : cl = true → cl1 = true) (h : OutE c W cl σ φ0 Mo0 s0 H0 (.ok (.bl k) s) Q) : Q (.bl k) H :=
  told_bl P.rel (told_of (P.weak hc) h)
/-! ### and, or, not, if -/
theorem and_to {σ : L2.St} {H : Hp} {Q : VK} (h : TE' T F c W (.and a b) σ H Q) : tAndV (TE' T F c W a) (TE' T F c W b) σ H Q := by
  obtain ⟨φ, Mo, s, rel, h⟩ := h
  rw [evE, asB_bind] at h
  refine tE_of finE (PostE.refl (cl := true) rel) (fun e => ⟨rfl, (and_split e).1⟩) h fun x xv φ1 Mo1 s1 H1 P1 v1 f1 h1 => ?_
  cases x with
  | bl k =>
    refine ⟨k, v1, ?_⟩
    cases k with
    | false => exact told_at _ P1 (fun e => (and_split e).1) h1
    | true =>
      have h2 : OutE c W ((E.and a b).calm T) σ φ Mo s H ((asB (evE T F b s1)).bind fun c s => .ok (.bl c) s) Q := h1
      rw [asB_bind] at h2
      show TE' T F c W b σ H1 Q
      refine tE_of finE P1 and_split h2 fun y yv φ2 Mo2 s2 H2 P2 v2 f2 h3 => ?_
      cases y with
      | bl k =>
        have e : yv = .bl k := v2
        subst e
        exact told_at _ (P1.trans P2 and_split) id h3
      | _ => exact h3.elim
  | _ => exact h1.elim
theorem or_to {σ : L2.St} {H : Hp} {Q : VK} (h : TE' T F c W (.or a b) σ H Q) : tOrV (TE' T F c W a) (TE' T F c W b) σ H Q := by
  obtain ⟨φ, Mo, s, rel, h⟩ := h
  rw [evE, asB_bind] at h
  refine tE_of finE (PostE.refl (cl := true) rel) (fun e => ⟨rfl, (and_split e).1⟩) h fun x xv φ1 Mo1 s1 H1 P1 v1 f1 h1 => ?_
  cases x with
  | bl k =>
    refine ⟨k, v1, ?_⟩
    cases k with
    | true => exact told_at _ P1 (fun e => (and_split e).1) h1
    | false =>
      have h2 : OutE c W ((E.or a b).calm T) σ φ Mo s H ((asB (evE T F b s1)).bind fun c s => .ok (.bl c) s) Q := h1
      rw [asB_bind] at h2
      show TE' T F c W b σ H1 Q
      refine tE_of finE P1 and_split h2 fun y yv φ2 Mo2 s2 H2 P2 v2 f2 h3 => ?_
      cases y with
      | bl k =>
        have e : yv = .bl k := v2
        subst e
        exact told_at _ (P1.trans P2 and_split) id h3
      | _ => exact h3.elim
  | _ => exact h1.elim
theorem asB_and {r : R Bool} {k : St → R Bool} : asB (r.bind fun c s => if c then (k s).bind fun c s => .ok (.bl c) s else .ok (.bl false) s) = r.bind fun c s => if c then k s else .ok false s := by
  cases r with
  | ok c s =>
    cases c with
    | false => rfl
    | true =>
      show asB ((k s).bind fun c s => .ok (.bl c) s) = k s
      cases k s <;> rfl
  | exc _ _ _ => rfl
  | stuck => rfl
theorem asB_or {r : R Bool} {k : St → R Bool} : asB (r.bind fun c s => if c then .ok (.bl true) s else (k s).bind fun c s => .ok (.bl c) s) = r.bind fun c s => if c then .ok true s else k s := by
  cases r with
  | ok c s =>
    cases c with
    | true => rfl
    | false =>
      show asB ((k s).bind fun c s => .ok (.bl c) s) = k s
      cases k s <;> rfl
  | exc _ _ _ => rfl
  | stuck => rfl
theorem andT_to {σ : L2.St} {H : Hp} {Q : Bool → Hp → Prop} (h : TT' T F c W (.and a b) σ H Q) : tAnd (TT' T F c W a) (TT' T F c W b) σ H Q := by
  obtain ⟨φ, Mo, s, rel, h⟩ := h
  have h : OutT c W ((E.and a b).calm T) σ φ Mo s H ((asB (evE T F a s)).bind fun c s => if c then asB (evE T F b s) else .ok false s) Q := by
    rw [← asB_and]
    rw [← evE]
    exact h
  refine tT_of (r := fun s => asB (evE T F a s)) finT (PostE.refl (cl := true) rel) (fun e => ⟨rfl, (and_split e).1⟩) h fun k φ1 Mo1 s1 H1 P1 h1 => ?_
  cases k with
  | false => exact h1 φ1 Mo1 H1 (P1.weak fun e => (and_split e).1)
  | true => exact tailT_of P1 and_split h1
theorem orT_to {σ : L2.St} {H : Hp} {Q : Bool → Hp → Prop} (h : TT' T F c W (.or a b) σ H Q) : tOr (TT' T F c W a) (TT' T F c W b) σ H Q := by
  obtain ⟨φ, Mo, s, rel, h⟩ := h
  have h : OutT c W ((E.or a b).calm T) σ φ Mo s H ((asB (evE T F a s)).bind fun c s => if c then .ok true s else asB (evE T F b s)) Q := by
    rw [← asB_or]
    rw [← evE]
    exact h
  refine tT_of (r := fun s => asB (evE T F a s)) finT (PostE.refl (cl := true) rel) (fun e => ⟨rfl, (and_split e).1⟩) h fun k φ1 Mo1 s1 H1 P1 h1 => ?_
  cases k with
  | true => exact h1 φ1 Mo1 H1 (P1.weak fun e => (and_split e).1)
  | false => exact tailT_of P1 and_split h1
theorem snd_and {r : List Expr} (ta : tst a = true) (ha : Snd T F c W X a ea) (hb : PE X (.BoolOp .And (eb :: r) p) (TE' T F c W b)) (hw : PW X (.BoolOp .And (eb :: r) p) (TT' T F c W b)) : Snd T F c W X (.and a b) (.BoolOp .And (ea :: eb :: r) p) := by
  have w : PW X (.BoolOp .And (ea :: eb :: r) p) (TT' T F c W (.and a b)) := PW.mono (pw_and (ha.pt ta) hw) fun σ H Q h => andT_to h
  exact ⟨PE.mono (pe_and ha.pe hb) fun σ H Q h => and_to h, fun _ => w.pt, fun _ _ => w⟩
theorem snd_or {r : List Expr} (ta : tst a = true) (ha : Snd T F c W X a ea) (hb : PE X (.BoolOp .Or (eb :: r) p) (TE' T F c W b)) (hw : PW X (.BoolOp .Or (eb :: r) p) (TT' T F c W b)) : Snd T F c W X (.or a b) (.BoolOp .Or (ea :: eb :: r) p) := by
  have w : PW X (.BoolOp .Or (ea :: eb :: r) p) (TT' T F c W (.or a b)) := PW.mono (pw_or (ha.pt ta) hw) fun σ H Q h => orT_to h
  exact ⟨PE.mono (pe_or ha.pe hb) fun σ H Q h => or_to h, fun _ => w.pt, fun _ _ => w⟩
theorem not_to {σ : L2.St} {H : Hp} {Q : VK} (h : TE' T F c W (.not a) σ H Q) : tNotV (TE' T F c W a) σ H Q := by
  obtain ⟨φ, Mo, s, rel, h⟩ := h
  rw [evE, asB_bind] at h
  refine tE_of finE (PostE.refl (cl := true) rel) (fun e => ⟨rfl, e⟩) h fun x xv φ1 Mo1 s1 H1 P1 v1 f1 h1 => ?_
  cases x with
  | bl k => exact ⟨k, v1, told_at _ P1 id h1⟩
  | _ => exact h1.elim
theorem asB_not {r : R Bool} : asB (r.bind fun c s => .ok (.bl (!c)) s) = r.bind fun c s => .ok (!c) s := by cases r <;> rfl
theorem notT_to {σ : L2.St} {H : Hp} {Q : Bool → Hp → Prop} (h : TT' T F c W (.not a) σ H Q) : tNot (TT' T F c W a) σ H Q := by
  obtain ⟨φ, Mo, s, rel, h⟩ := h
  have h : OutT c W ((E.not a).calm T) σ φ Mo s H ((asB (evE T F a s)).bind fun c s => .ok (!c) s) Q := by
    rw [← asB_not]
    rw [← evE]
    exact h
  exact tT_of (r := fun s => asB (evE T F a s)) finT (PostE.refl (cl := true) rel) (fun e => ⟨rfl, e⟩) h fun k φ1 Mo1 s1 H1 P1 h1 => h1 φ1 Mo1 H1 P1
theorem snd_not (ta : tst a = true) (ha : Snd T F c W X a ea) : Snd T F c W X (.not a) (.UnaryOp .Not ea p) :=
  ⟨PE.mono (pe_not ha.pe) fun σ H Q h => not_to h, fun _ => PT.mono (pt_not (ha.pt ta)) fun σ H Q h => notT_to h, fun q _ => (by cases q)⟩
theorem snd_ife (tt : tst t = true) (ht : Snd T F c W X t et) (ha : Snd T F c W X a ea) (hb : Snd T F c W X b eb) : PE X (.IfExp et ea eb p) (TE' T F c W (.ife t a b)) := by
  refine PE.mono (pe_ifExp (ht.pt tt) ha.pe hb.pe) fun σ H Q hq => ?_
  obtain ⟨φ, Mo, s, rel, h⟩ := hq
  rw [evE] at h
  refine tT_of (r := fun s => asB (evE T F t s)) finE (PostE.refl (cl := true) rel) (fun e => ⟨rfl, (and_split (and_split e).1).1⟩) h fun k φ1 Mo1 s1 H1 P1 h1 => ?_
  cases k with
  | true => exact tail_of P1 (fun e => (and_split e).1 |> and_split) h1
  | false => exact tail_of P1 (fun e => ⟨(and_split (and_split e).1).1, (and_split e).2⟩) h1
/-! ### a chain of two comparisons -/
theorem nodct {o : Co} (h : o = .lt ∨ o = .le) {x : Bool} : o = .inn ∨ o = .nin → x = false := fun q => by
  rcases h with rfl | rfl <;> rcases q with q | q <;> cases q
theorem chn_to {o1 o2 : Co} (l1 : o1 = .lt ∨ o1 = .le) (l2 : o2 = .lt ∨ o2 = .le) {σ : L2.St} {H : Hp} {Q : VK} (h : TE' T F c W (.chn o1 o2 a b d) σ H Q) :
    tChain (rCo c.K o1) (rCo c.K o2) (TE' T F c W a) (TE' T F c W b) (TE' T F c W d) σ H Q := by
  obtain ⟨φ, Mo, s, rel, h⟩ := h
  rw [evE] at h
  refine two_of finE rel (fun e => and_split (and_split e).1) h fun x s1 y s2 xv yv φ2 Mo2 H2 w1 w2 P v1 v2 hq => ?_
  have hq : OutE c W ((E.chn o1 o2 a b d).calm T) σ φ Mo s H (match cmpD o1 s2 x y with
    | some true => if isF y then .stuck else (evE T F d s2).bind fun z s => R.of ((cmpD o2 s y z).map .bl) s
    | some false => .ok (.bl false) s2
    | none => .stuck) Q := hq
  cases k1 : cmpD o1 s2 x y with
  | none =>
    rw [k1] at hq
    exact hq.elim
  | some k =>
    rw [k1] at hq
    refine co_ok o1 P.rel v1 v2 (nodct l1) k1 ⟨k, rfl, ?_⟩
    cases k with
    | false => exact told_at _ P id hq
    | true =>
      show TE' T F c W d σ H2 fun w' H4 => rCo c.K o2 yv w' H4 Q
      obtain ⟨hf, hq⟩ := not_stuck hq
      refine tE_of finE P (fun e => ⟨e, (and_split e).2⟩) hq fun z zv φ3 Mo3 s3 H3 P3 v3 f3 h3 => ?_
      obtain ⟨k, hk, h4⟩ := of_map h3
      exact co_ok o2 P3.rel (P3.vrep (fun e => by rw [hf] at e; cases e) v2) v3 (nodct l2) hk (told_at _ (P.trans P3 fun e => ⟨e, (and_split e).2⟩) id h4)
theorem last_plain {o1 o2 : CmpOp} (h : plainX ed = true) : lastMarks [o1, o2] [eb, ed] = false := by
  show behindInMarks o2 ed = false
  exact behind_plain h
theorem snd_chn {o1 o2 : Co} (l1 : o1 = .lt ∨ o1 = .le) (l2 : o2 = .lt ∨ o2 = .le) (hK : X.K = c.K) (hu : X.A.units + 64 < cLine) (hp : plainX ed = true) (ha : PE X ea (TE' T F c W a)) (hb : PE X eb (TE' T F c W b)) (hd : PE X ed (TE' T F c W d)) :
    Snd T F c W X (.chn o1 o2 a b d) (.Compare ea [coOp o1, coOp o2] [eb, ed] p) := by
  refine ⟨PE.mono (pe_chain (op_co hu o1) (op_co hu o2) ha hb hd (last_plain hp)) fun σ H Q h => ?_, fun _ => PT.mono (pt_chain (op_co hu o1) (op_co hu o2) ha hb hd (last_plain hp)) fun σ H Q h => ?_, fun q _ => (by cases q)⟩
  · rw [hK]
    exact chn_to l1 l2 h
  · rw [hK]
    exact chn_to l1 l2 (tT_tB h)
/-! ### places, slices -/
theorem repK_get {φ : Nm → Addr} {M : Addr → Prop} {H : Hp} {L : Nat} {z : Tx} {d : D} : ∀ {kvs : List (Tx × D)} {us : List (Key × V)}, RepK c φ M H L kvs us → kvs.lookup z = some d → ∃ v, valV us (.inr (tx z)) = some v ∧ Rep c φ M H L d v
  | [], us, r, e => by cases e
  | (g, d0) :: r, us, h, e => by
    obtain ⟨v0, w, ws, rfl, r0, t⟩ := h
    by_cases hg : g = z
    · subst hg
      rw [List.lookup_cons_self] at e
      cases e
      exact ⟨w, valV_pos rfl, r0⟩
    · have : (z == g) = false := by simpa using fun e : z = g => hg e.symm
      rw [List.lookup_cons, this] at e
      rw [valV_neg (fun e => hg (tx_inj (Sum.inr.inj e)))]
      exact repK_get t e
theorem ix_to {σ : L2.St} {H : Hp} {Q : VK} (h : TE' T F c W (.ix a b) σ H Q) : tOp (rIx c.K) (TE' T F c W a) (TE' T F c W b) σ H Q ∨ tDGet (TE' T F c W a) (TE' T F c W b) σ H Q := by
  obtain ⟨φ, Mo, s, rel, h⟩ := h
  rw [evE] at h
  by_cases hd : ∃ x s1 y s2, evE T F a s = .ok x s1 ∧ evE T F b s1 = .ok y s2 ∧ isDct s2 x = true
  · obtain ⟨x0, s10, y0, s20, q1, q2, q3⟩ := hd
    refine .inr (two_of finE rel and_split h fun x s1 y s2 xv yv φ2 Mo2 H2 w1 w2 P v1 v2 hq => ?_)
    rw [q1] at w1
    cases w1
    rw [q2] at w2
    cases w2
    obtain ⟨d, e, hq'⟩ := of_some hq
    have key : ∀ kvs k, asDct s20 x0 = some kvs → y0 = .str k → kvs.lookup k = some d → ∃ ad v, xv = .ref ad ∧ DGet H2 ad yv (some v) ∧ Q v H2 := fun kvs k e1 e2 e3 => by
      subst e2
      obtain ⟨rfl, _⟩ := v2
      obtain ⟨ad, us, rfl, r1, r2⟩ := dct_of P.rel.toRel v1 e1
      obtain ⟨v, e4, r4⟩ := repK_get r2 e3
      have k4 := VRep.of r4
      exact ⟨ad, v, rfl, .inl ⟨us, .inr (tx k), r1, rfl, by rw [e4]⟩, told_same P.rel (told_of P hq') k4.1 k4.2⟩
    unfold ixD at e
    unfold isDct at q3
    split at e
    · split at e <;> rename_i e1 <;> first | (rw [e1] at q3; cases q3; done) | (cases e; done) | skip
    · split at e
      · rename_i kvs e1
        exact key kvs _ (by unfold asDct; rw [e1]) rfl e
      · rename_i kvs e1
        exact key kvs _ (by unfold asDct; rw [e1]) rfl e
      · cases e
    · cases e
  · refine .inl (two_of finE rel and_split h fun x s1 y s2 xv yv φ2 Mo2 H2 w1 w2 P v1 v2 hq => ?_)
    obtain ⟨d, e, hq⟩ := of_some hq
    refine ix_ok P.rel v1 v2 ?_ e (told_of P hq)
    cases q : isDct s2 x with
    | false => rfl
    | true => exact absurd ⟨x, s1, y, s2, w1, w2, q⟩ hd
theorem snd_ix (hK : X.K = c.K) (hu : X.A.units + 64 < cLine) (hp : plainX eb = true) (ha : PE X ea (TE' T F c W a)) (hb : PE X eb (TE' T F c W b)) : PE X (.Subscript ea eb p) (TE' T F c W (.ix a b)) := by
  refine ⟨fun pins st σ H Q I hq => ?_⟩
  rcases ix_to hq with h | h
  · exact (pe_ix ix_seq ha hb (ix_plain hp)).run pins st σ H Q I (by rw [hK]; exact h)
  · exact (pe_dget (by omega) ha hb (ix_plain hp)).run pins st σ H Q I h
def TO' (T : Tb) (F : Fi) (c : Cz) (W : Wx) : E → TO
  | .nil => tNoPart
  | e => tPart (TE' T F c W e)
theorem to_of {β : Type} {Fp : R β → Prop} {cl cl1 : Bool} {k : Option Int → St → R β} {Q : Option Int → Hp → Prop} {σ : L2.St} {φ0 φ1 : Nm → Addr} {Mo0 Mo1 : Addr → Prop} {s0 s1 : St} {H0 H1 : Hp} (fin : Fin' c W cl σ φ0 Mo0 s0 H0 Fp) (P : PostE c cl1 σ φ0 Mo0 s0 H0 φ1 Mo1 s1 H1) (hc : cl = true → cl1 = true ∧ a.calm T = true)
    (h : Fp ((optI a (evE T F a) s1).bind k)) (q : ∀ d φ2 Mo2 s2 H2, PostE c (a.calm T) σ φ1 Mo1 s1 H1 φ2 Mo2 s2 H2 → Fp (k d s2) → Q d H2) : TO' T F c W a σ H1 Q := by
  have go : a ≠ .nil → tPart (TE' T F c W a) σ H1 Q := fun hn => by
    have e : optI a (evE T F a) s1 = (evE T F a s1).bind fun d s => match d with
      | .int i => .ok (some i) s
      | _ => .stuck := by
      cases a <;> first | exact absurd rfl hn | rfl
    rw [e] at h
    have e2 : (((evE T F a s1).bind fun d s => match d with
      | .int i => .ok (some i) s
      | _ => .stuck) : R (Option Int)).bind k = (evE T F a s1).bind fun d s => match d with
      | .int i => k (some i) s
      | _ => .stuck := by
      cases evE T F a s1 with
      | ok d s => cases d <;> rfl
      | exc _ _ _ => rfl
      | stuck => rfl
    rw [e2] at h
    refine tE_of fin P hc h fun d v φ2 Mo2 s2 H2 P2 vr fr h2 => ?_
    cases d with
    | int i => exact ⟨i, vr, q _ φ2 Mo2 s2 H2 P2 h2⟩
    | _ => exact (fin.ns h2).elim
  cases a with
  | nil => exact q none φ1 Mo1 s1 H1 (PostE.refl P.rel) h
  | _ => exact go (by intro z; cases z)
theorem TO'.some {l : E} {el : Expr} (hn : l ≠ .nil) (h : PE X el (TE' T F c W l)) : PO X (some el) (TO' T F c W l) := by
  cases l <;> first | exact absurd rfl hn | exact po_some h
theorem snd_sl {lo hi : E} {l h : Option Expr} {q : Pos} (hK : X.K = c.K) (ha : PE X ea (TE' T F c W a)) (hl : PO X l (TO' T F c W lo)) (hh : PO X h (TO' T F c W hi)) : PE X (.Subscript ea (.Slice l h none q) p) (TE' T F c W (.sl a lo hi)) := by
  refine PE.mono (pe_slice sl_all ha hl hh) fun σ H Q hq => ?_
  rw [hK]
  obtain ⟨φ, Mo, s, rel, h⟩ := hq
  rw [evE] at h
  refine tE_of finE (PostE.refl (cl := true) rel) (fun e => ⟨rfl, (and_split (and_split e).1).1⟩) h fun x xv φ1 Mo1 s1 H1 P1 v1 f1 h1 => ?_
  obtain ⟨hf, h1⟩ := not_stuck h1
  have hc : isF x = true → lo.calm T = true ∧ hi.calm T = true := fun e => by
    rw [e, Bool.true_and] at hf
    exact and_split (by simpa using hf)
  refine to_of finE P1 (fun e => and_split (and_split e).1) h1 fun i φ2 Mo2 s2 H2 P2 h2 => ?_
  refine to_of finE (P1.trans P2 (cl := (E.calm T a && lo.calm T)) and_split) and_split h2 fun j φ3 Mo3 s3 H3 P3 h3 => ?_
  obtain ⟨d, e, h3⟩ := of_some h3
  exact sl_ok P3.rel (P3.vrep (fun e => (hc e).2) (P2.vrep (fun e => (hc e).1) v1)) e (told_of ((P1.trans P2 (cl := (E.calm T a && lo.calm T)) and_split).trans P3 and_split) h3)
end
end TR
end

section
set_option Elab.async false
set_option linter.all false
set_option maxRecDepth 100000
set_option autoImplicit false
/-! TrExp3: fields, argument lists, displays, new cells, built-in functions and methods. -/
namespace TR
open PySem L2
section
variable {T : Tb} {F : Fi} {c : Cz} {n : Nms} {N : List Str}
variable {W : Wx} {X : Cx} {a b d t : E} {ea eb ed et : Expr} {p : Pos}
/-! ### fields -/
theorem repO_get {φ : Nm → Addr} {M : Addr → Prop} {H : Hp} {L : Nat} {nm : Nm} {f : Nat} {d : D} (inj : ∀ f g, c.ha f = true → c.ha g = true → c.an f = c.an g → f = g) (hf : c.ha f = true) : ∀ {fs : List (Nat × D)} {us : List (Str × V)}, RepO c φ M H L nm fs us → fs.lookup f = some d →
    ∃ v, us.lookup (c.an f) = some v ∧ (if owned d then ∃ n, nm = .cell n ∧ v = .ref (φ (.fld n f)) else Rep c φ M H L d v)
  | [], us, r, e => by cases e
  | (g, d0) :: r, us, h, e => by
    obtain ⟨hg, v, ws, rfl, r0, t⟩ := h
    by_cases hh : g = f
    · subst hh
      rw [List.lookup_cons_self] at e
      cases e
      exact ⟨v, List.lookup_cons_self, r0⟩
    · have e1 : (f == g) = false := by simpa using fun e : f = g => hh e.symm
      have e2 : (c.an f == c.an g) = false := by simpa using fun e => hh (inj f g hf hg e).symm
      rw [List.lookup_cons, e1] at e
      rw [List.lookup_cons, e2]
      exact repO_get inj hf t e
/-- x.f, x an instance or a caught exception -/
def tFldX (K : PySem.W.Frag) (ta : TE) (f : Str) : TE := fun σ H Q => ta σ H fun x H1 => (∃ a C dx fs v, x = .ref a ∧ H1 a = some (.ins C dx fs) ∧ Cls K C ∧ NoAttr K C f ∧ fs.lookup f = some v ∧ Q v H1) ∨
  ∃ (a C dd : Addr) (us : List (Str × V)) (v : V), x = .ref a ∧ H1 a = some (ExH (.ref C) (some dd) a) ∧ XfC K C ∧ PySem.W.findIn K (.ref C) f = some none ∧ H1 dd = some (.xd us) ∧ us.lookup f = some v ∧ Q v H1
theorem pe_fldX {ta : TE} {f : Str} (he : PE X ea ta) (hb : attributeBase ea f X.env (eval ea X.env) = eval ea X.env) : PE X (.Attribute ea f p) (tFldX X.K ta f) := by
  refine ⟨fun pins s σ H Q I h => ?_⟩
  refine attr_of hb (thn (he.run pins s σ H _ I h) fun u s1 ⟨x, H1, I1, rx, hh⟩ => ?_)
  rcases hh with ⟨a, C, dx, fs, v, ex, ea, c, n, l, q⟩ | ⟨a, C, dd, us, v, ex, ea, T, hno, ed, l, q⟩
  · subst ex
    obtain rfl : u = Value.ref a := rx
    exact getattr_ok I1 ea c n l fun u' s2 I2 ru => ⟨v, H1, I2, ru, q⟩
  · subst ex
    obtain rfl : u = Value.ref a := rx
    obtain ⟨⟨oe, vs, ha, hz, hd⟩, _, _⟩ := (show ObjOk X.prog X.w H1 s1.heap a (.ext fun h => ∃ (oe : Obj) (vs : Array Value), h.get? a = some oe ∧ Zc (.ref C) (some dd) oe ∧ oe.data = .fields vs) from I1.hok a _ ea)
    have hx : ObjOk X.prog X.w H1 s1.heap dd (.xd us) := I1.hok dd _ ed
    obtain ⟨mA, hns, hr⟩ := hx
    obtain ⟨od, ho, hl⟩ := lookIn_ns hns
    obtain ⟨u, hu, ru⟩ := RelO.some_of (v := v) (o := mA f) (by rw [← l]; exact hr f)
    have J : PySem.W.InstAt s1.heap a oe C (some od) := ⟨ha, hz.1, by unfold PySem.W.notCls; rw [hd] <;> rfl, by rw [hz.2]; exact ho⟩
    exact HandSPX.exc_get I1.kIn J T.ga T.gg T.exC (PySem.W.findObj_own T.hdC hno rfl (by rw [hl, hu])) (handed_of ru) ⟨v, H1, I1.tok _, ru, q⟩
theorem snd_fld {f : Nat} (inj : ∀ f g, c.ha f = true → c.ha g = true → c.an f = c.an g → f = g) (hf : c.ha f = true) (hC : ∀ k, c.hc k = true → Cls X.K (c.ct k) ∧ NoAttr X.K (c.ct k) (c.an f))
    (hX : ∀ k, c.hx k = true → XfC X.K (c.ct k) ∧ PySem.W.findIn X.K (.ref (c.ct k)) (c.an f) = some none) (hs : noSup ea) (ha : PE X ea (TE' T F c W a)) : PE X (.Attribute ea (c.an f) p) (TE' T F c W (.fld a f)) := by
  refine PE.mono (pe_fldX ha (sup_plain hs)) fun σ H Q hq => ?_
  obtain ⟨φ, Mo, s, rel, h⟩ := hq
  rw [evE] at h
  refine tE_of finE (PostE.refl (cl := true) rel) (fun e => ⟨rfl, e⟩) h fun x xv φ1 Mo1 s1 H1 P1 v1 f1 h1 => ?_
  by_cases hex : ∃ k fs, x = .exc k fs
  · obtain ⟨k, fs, rfl⟩ := hex
    have h1 : OutE c W ((E.fld a f).calm T) σ φ Mo s H (match fs.lookup f with
      | some d => fldR f s1 (.exc k fs) d
      | none => .stuck) Q := h1
    cases e2 : fs.lookup f with
    | none =>
      rw [e2] at h1
      exact h1.elim
    | some d =>
      rw [e2] at h1
      have h1 : OutE c W ((E.fld a f).calm T) σ φ Mo s H (fldR f s1 (.exc k fs) d) Q := h1
      unfold fldR at h1
      have ho : owned d = false := by
        cases d <;> first | rfl | exact h1.elim
      rw [ho] at h1
      obtain ⟨hk, ad, dx, ev, na, ea, _, r⟩ := (show Rep c φ1 (Ms φ1 Mo1 s1) H1 s1.sto.length (.exc k fs) xv from v1)
      obtain ⟨dd, us, e3, n3, e4, r⟩ := r (fun z => by rw [z] at e2; cases e2)
      obtain ⟨v, e5, r5⟩ := RepX.get r e2
      subst e3
      have kk := VRep.of r5
      exact .inr ⟨ad, _, dd, us, v, ev, ea, (hX k hk).1, (hX k hk).2, e4, e5, told_same P1.rel (told_of P1 h1) kk.1 kk.2⟩
  refine .inl ?_
  have hx : objOf s1 x = asObj s1 x := by
    cases x with
    | exc k fs => exact absurd ⟨k, fs, rfl⟩ hex
    | _ => rfl
  rw [hx] at h1
  cases e1 : asObj s1 x with
  | none =>
    rw [e1] at h1
    exact h1.elim
  | some kf =>
    obtain ⟨k, fs⟩ := kf
    rw [e1] at h1
    have h1 : OutE c W ((E.fld a f).calm T) σ φ Mo s H (match fs.lookup f with
      | some d => fldR f s1 x d
      | none => .stuck) Q := h1
    cases e2 : fs.lookup f with
    | none =>
      rw [e2] at h1
      exact h1.elim
    | some d =>
      rw [e2] at h1
      have h1 : OutE c W ((E.fld a f).calm T) σ φ Mo s H (fldR f s1 x d) Q := h1
      unfold fldR at h1
      have fin : ∀ {ad : Addr} {dx : Addr} {us : List (Str × V)} {v : V}, xv = .ref ad → H1 ad = some (.ins (c.ct k) dx us) → c.hc k = true → us.lookup (c.an f) = some v → Q v H1 →
          ∃ a C dx fs v, xv = .ref a ∧ H1 a = some (.ins C dx fs) ∧ Cls X.K C ∧ NoAttr X.K C (c.an f) ∧ fs.lookup (c.an f) = some v ∧ Q v H1 := fun {ad dx us v} q1 q2 q3 q4 q5 => ⟨ad, _, dx, us, v, q1, q2, (hC k q3).1, (hC k q3).2, q4, q5⟩
      have non : owned d = false → ∀ {v}, Rep c φ1 (Ms φ1 Mo1 s1) H1 s1.sto.length d v → Q v H1 := fun ho v r => by
        rw [ho] at h1
        have k := VRep.of r
        exact told_same P1.rel (told_of P1 h1) k.1 k.2
      by_cases ho : owned d = true
      · rw [if_pos ho] at h1
        cases x with
        | loc m =>
          have h2 : OutE c W ((E.fld a f).calm T) σ φ Mo s H (.ok (.fref m f) s1) Q := by
            cases d <;> first | (cases ho; done) | exact h1.elim | exact h1
          have e3 : own s1 (.cell m) = some (.oobj k fs) := by
            have : cont s1 (.loc m) = own s1 (.cell m) := rfl
            unfold asObj at e1
            rw [this] at e1
            split at e1
            · rename_i e4
              have := own_owned e4
              cases this
            · rename_i e4
              cases e1
              exact e4
            · cases e1
          obtain ⟨hk, nd, dx, us, e4, r⟩ := P1.rel.cnt (.cell m) (.oobj k fs) ⟨e3, by intro z; cases z⟩
          obtain ⟨v, e5, r5⟩ := repO_get inj hf r e2
          rw [if_pos ho] at r5
          obtain ⟨m', em, ev⟩ := r5
          cases em
          refine fin v1.2 e4 hk e5 (told_same P1.rel (told_of P1 h2) ?_ rfl)
          exact ev
        | _ => exact absurd h1 (by cases d <;> exact id)
      · have ho' : owned d = false := by simpa using ho
        have key : CV c φ1 (Ms φ1 Mo1 s1) H1 s1.sto.length (.oobj k fs) xv ∨ CV c φ1 (Ms φ1 Mo1 s1) H1 s1.sto.length (.obj k fs) xv := by
          unfold asObj at e1
          split at e1
          · rename_i e4
            cases e1
            exact .inr (contV P1.rel.toRel v1 e4)
          · rename_i e4
            cases e1
            exact .inl (contV P1.rel.toRel v1 e4)
          · cases e1
        rcases key with ⟨hk, ad, nm, dx, us, ev, nd, e4, r⟩ | ⟨hk, ad, dx, us, ev, nm, e4, r⟩
        · obtain ⟨v, e5, r5⟩ := repO_get inj hf r e2
          rw [if_neg ho] at r5
          exact fin ev e4 hk e5 (non ho' r5)
        · obtain ⟨v, e5, r5⟩ := repO_get (nm := .slot 0) inj hf (repF_O r) e2
          rw [if_neg ho] at r5
          exact fin ev e4 hk e5 (non ho' r5)
/-! ### argument lists -/
abbrev TA' (T : Tb) (F : Fi) (c : Cz) (W : Wx) (a : E) : TA := tA c W (a.calm T) (evA T F a)
abbrev TB' (T : Tb) (F : Fi) (c : Cz) (W : Wx) (a : E) : TA := tB' c W (a.calm T) (evB T F a)
theorem esc_noexc {s s' : St} {d : D} {k : Nat} {fs : List (Nat × D)} : esc s d ≠ .exc k fs s' := by
  intro h
  unfold esc at h
  split at h
  · split at h
    · split at h <;> cases h
    · cases h
  · unfold R.of at h
    split at h <;> cases h
theorem argA_to {σ : L2.St} {H : Hp} {Q : List V → Hp → Prop} (h : TA' T F c W (.cons a b) σ H Q) : tCons (TE' T F c W a) (TA' T F c W b) σ H Q := by
  obtain ⟨φ, Mo, s, rel, h⟩ := h
  rw [evA] at h
  refine tE_of finA (PostE.refl (cl := true) rel) (fun e => ⟨rfl, (and_split e).1⟩) h fun x xv φ1 Mo1 s1 H1 P1 v1 f1 h1 => ?_
  cases e : esc s1 x with
  | stuck =>
    rw [e] at h1
    exact h1.elim
  | exc k fs s2 => exact absurd e esc_noexc
  | ok x' s2 =>
    rw [e] at h1
    obtain ⟨Mo2, P2, r2, ho, _, _⟩ := esc_ok P1 rel.dom v1 f1 e
    refine tA_of finA P2 and_split h1 fun ds vs φ3 Mo3 s3 H3 P3 r3 h3 => ?_
    refine h3 (xv :: vs) φ3 Mo3 H3 (P2.trans P3 and_split) ⟨xv, vs, rfl, Rep.mv P3.fr.mv _ _ r2, r3⟩
theorem argB_to {σ : L2.St} {H : Hp} {Q : List V → Hp → Prop} (h : TB' T F c W (.cons a b) σ H Q) : tCons (TE' T F c W a) (TB' T F c W b) σ H Q := by
  obtain ⟨φ, Mo, s, rel, h⟩ := h
  rw [evB] at h
  refine tE_of finB (PostE.refl (cl := true) rel) (fun e => ⟨rfl, (and_split e).1⟩) h fun x xv φ1 Mo1 s1 H1 P1 v1 f1 h1 => ?_
  have hq : (isF x && !b.calm T) = false ∧ OutB c W ((E.cons a b).calm T) σ φ Mo s H ((evB T F b s1).bind fun xs s => .ok (x :: xs) s) Q := by
    have h2 : OutB c W ((E.cons a b).calm T) σ φ Mo s H (if isF x && !b.calm T then .stuck else (evB T F b s1).bind fun xs s => .ok (x :: xs) s) Q := h1
    cases q : (isF x && !b.calm T) with
    | true =>
      rw [q] at h2
      exact h2.elim
    | false =>
      rw [q] at h2
      exact ⟨rfl, h2⟩
  obtain ⟨hf, h2⟩ := hq
  refine tB_of finB P1 and_split h2 fun ds vs φ3 Mo3 s3 H3 P3 r3 f3 h3 => ?_
  exact h3 (xv :: vs) φ3 Mo3 H3 (P1.trans P3 and_split) ⟨xv, vs, rfl, P3.vrep (isF_calm hf) v1, r3⟩ ⟨f1, fresh_back f3 P1.fr.dom⟩
where
  fresh_back {H H1 : Hp} : ∀ {ds : List D} {vs : List V}, freshL H1 ds vs → (∀ a, H a ≠ none → H1 a ≠ none) → freshL H ds vs
  | [], _, _, _ => by unfold freshL; trivial
  | d :: ds, [], _, _ => trivial
  | d :: ds, v :: vs, h, dom => ⟨h.1.back dom, fresh_back h.2 dom⟩
theorem nilA_to {σ : L2.St} {H : Hp} {Q : List V → Hp → Prop} (h : TA' T F c W .nil σ H Q) : tNil σ H Q := by
  obtain ⟨φ, Mo, s, rel, h⟩ := h
  exact h [] φ Mo H (PostE.refl rel) rfl
theorem nilB_to {σ : L2.St} {H : Hp} {Q : List V → Hp → Prop} (h : TB' T F c W .nil σ H Q) : tNil σ H Q := by
  obtain ⟨φ, Mo, s, rel, h⟩ := h
  exact h [] φ Mo H (PostE.refl rel) rfl trivial
def alen : E → Nat
  | .cons _ r => alen r + 1
  | _ => 0
theorem evA_len : ∀ {a : E} {s s' : St} {ds : List D}, evA T F a s = .ok ds s' → ds.length = alen a := by
  intro a
  induction a with
  | nil =>
    intro s s' ds h
    rw [evA] at h
    cases h
    rfl
  | cons a r _ ih =>
    intro s s' ds h
    rw [evA] at h
    cases e : evE T F a s with
    | stuck =>
      rw [e] at h
      cases h
    | exc k fs s2 =>
      rw [e] at h
      cases h
    | ok x s1 =>
      rw [e] at h
      have h : ((esc s1 x).bind fun x s => (evA T F r s).bind fun xs s => .ok (x :: xs) s) = .ok ds s' := h
      cases e2 : esc s1 x with
      | stuck =>
        rw [e2] at h
        cases h
      | exc k fs s2 =>
        rw [e2] at h
        cases h
      | ok x' s2 =>
        rw [e2] at h
        have h : ((evA T F r s2).bind fun xs s => .ok (x' :: xs) s) = .ok ds s' := h
        cases e3 : evA T F r s2 with
        | stuck =>
          rw [e3] at h
          cases h
        | exc k fs s2 =>
          rw [e3] at h
          cases h
        | ok xs s3 =>
          rw [e3] at h
          cases h
          show xs.length + 1 = _
          rw [ih e3]
          rfl
  | _ =>
    intro s s' ds h
    rw [evA] at h
    cases h
    all_goals (intros; rename_i q; first | (cases q; done) | skip)
theorem disp_to {k : List D → D} {cl : Bool} {σ : L2.St} {φ : Nm → Addr} {Mo : Addr → Prop} {s : St} {H : Hp} {Q : VK} {G : List V → Hp → Prop} (rel : RelE c φ Mo s σ H) (hcl : cl = true → a.calm T = true) (h : OutE c W cl σ φ Mo s H ((evA T F a s).bind fun ds s => .ok (k ds) s) Q)
    (q : ∀ ds vs φ1 Mo1 s1 H1, ds.length = alen a → PostE c (a.calm T) σ φ Mo s H φ1 Mo1 s1 H1 → RepL c φ1 (Ms φ1 Mo1 s1) H1 s1.sto.length ds vs → OutE c W cl σ φ Mo s H (.ok (k ds) s1) Q → G vs H1) : TA' T F c W a σ H G := by
  refine ⟨φ, Mo, s, rel, ?_⟩
  cases e : evA T F a s with
  | stuck =>
    rw [e] at h
    exact h.elim
  | exc k fs s1 =>
    rw [e] at h
    exact fun cls dx φ' Mo' H' P x => h cls dx φ' Mo' H' (P.weak hcl) x
  | ok ds s1 =>
    rw [e] at h
    exact fun vs φ' Mo' H' P r => q ds vs φ' Mo' s1 H' (evA_len e) P r h
theorem snd_tup {es : List Expr} {k : Nat} (hl : alen a ≤ 1000) (ha : PA X es (TA' T F c W a)) : PE X (.Tuple es k p) (TE' T F c W (.tup a)) := by
  refine PE.mono (pe_tup ha) fun σ H Q hq => ?_
  obtain ⟨φ, Mo, s, rel, h⟩ := hq
  rw [evE] at h
  refine disp_to rel id h fun ds vs φ1 Mo1 s1 H1 e P r h1 => ⟨?_, fun p hp => told_tup P.rel (told_of (P.weak (fun e => e)) h1) r hp⟩
  rw [r.length, e]
  exact Nat.le_trans hl (by decide)
theorem snd_lst {es : List Expr} (hl : alen a ≤ 1000) (ha : PA X es (TA' T F c W a)) : PE X (.List es p) (TE' T F c W (.lst a)) := by
  refine PE.mono (pe_lst ha) fun σ H Q hq => ?_
  obtain ⟨φ, Mo, s, rel, h⟩ := hq
  rw [evE] at h
  refine disp_to rel id h fun ds vs φ1 Mo1 s1 H1 e P r h1 => ⟨?_, fun p hp => told_lst P.rel (told_of (P.weak (fun e => e)) h1) r hp⟩
  rw [r.length, e]
  exact Nat.le_trans hl (by decide)
theorem snd_dic0 : PE X (.Dict [] [] p) (TE' T F c W .dic0) := by
  refine PE.mono pe_dnewK fun σ H Q hq => ?_
  obtain ⟨φ, Mo, s, rel, h⟩ := hq
  rw [evE] at h
  exact fun q hp => told_dct rel (told_of (PostE.refl rel) h) rfl hp
end
end TR
end

section
set_option Elab.async false
set_option linter.all false
set_option maxRecDepth 100000
set_option autoImplicit false
/-! TrCall: what a caller hands over and what it gets back. -/
namespace TR
open PySem L2
section
variable {c : Cz} {φ φ' φ0 : Nm → Addr} {Mo Mo' Mo0 : Addr → Prop} {s s0 : St} {σ : L2.St} {H H' H0 : Hp} {cl cl1 : Bool} {sto sto' : List D} {d : D} {v : V}
/-- a slot's thing -/
def Sl (φ : Nm → Addr) (s : St) (a : Addr) : Prop := ∃ i d, Act s (.slot i) d ∧ φ (.slot i) = a
/-- the callee's outer things -/
def MoIn (φ : Nm → Addr) (Mo : Addr → Prop) (s : St) (a : Addr) : Prop := Mo a ∨ Sl φ s a
theorem own_slot0 {i : Nat} : own ⟨[], sto⟩ (.slot i) = none := by
  unfold own raw
  simp
theorem own_sto {env env' : List (Option D)} {nm : Nm} (h : ∀ i, nm ≠ .slot i) : own ⟨env, sto⟩ nm = own ⟨env', sto⟩ nm := by
  cases nm with
  | slot i => exact absurd rfl (h i)
  | cell n => rfl
  | fld n f => rfl
theorem act0 {nm : Nm} : Act ⟨[], sto⟩ nm d → ∀ i, nm ≠ .slot i := fun h i e => by
  subst e
  have := h.1
  rw [own_slot0] at this
  cases this
theorem act_in {nm : Nm} (h : Act ⟨[], s.sto⟩ nm d) : Act s nm d := ⟨by
  have e := own_sto (sto := s.sto) (env := s.env) (env' := []) (act0 h)
  exact e.trans h.1, h.2⟩
theorem act_out {nm : Nm} (h : Act s nm d) (hn : ∀ i, nm ≠ .slot i) : Act ⟨[], s.sto⟩ nm d := ⟨by
  rw [← own_sto (env := s.env) hn]
  exact h.1, h.2⟩
theorem ms_in {a : Addr} : Ms φ (MoIn φ Mo s) ⟨[], s.sto⟩ a ↔ Ms φ Mo s a := by
  constructor
  · rintro ((h | ⟨i, d, h, e⟩) | ⟨nm, d, h, e⟩)
    · exact .inl h
    · exact .inr ⟨_, d, h, e⟩
    · exact .inr ⟨nm, d, act_in h, e⟩
  · rintro (h | ⟨nm, d, h, e⟩)
    · exact .inl (.inl h)
    · by_cases hn : ∃ i, nm = .slot i
      · obtain ⟨i, rfl⟩ := hn
        exact .inl (.inr ⟨i, d, h, e⟩)
      · exact .inr ⟨nm, d, act_out h fun i q => hn ⟨i, q⟩, e⟩
/-- the same heap, the same places, other names for what may change -/
theorem mvM {M M' : Addr → Prop} {L L' : Nat} (h : ∀ a, M' a → M a) (hc : ∀ n, n < L → φ' (.cell n) = φ (.cell n)) (hl : L ≤ L') : Mv φ φ' M M' H H L L' := ⟨fun a o e hn => ⟨e, fun z => hn (h a z)⟩, hc, hl⟩
theorem Rel.enter (r : Rel c φ Mo s H) : Rel c φ (MoIn φ Mo s) ⟨[], s.sto⟩ H where
  inj := fun nm nm' d d' h h' e => r.inj nm nm' d d' (act_in h) (act_in h') e
  out := fun nm d h z => z.elim (r.out nm d (act_in h)) fun ⟨i, d', h', e⟩ => act0 h i (r.inj nm (.slot i) d d' (act_in h) h' e.symm)
  cnt := fun nm d h => (r.cnt nm d (act_in h)).mv (mvM (fun a z => ms_in.mp z) (fun _ _ => rfl) (Nat.le_refl _)) (fun _ e => e) fun _ _ _ _ _ _ _ _ _ => rfl
  dom := fun a h => h.elim (r.dom a) fun ⟨i, d, h, e⟩ => by
    rw [← e]
    exact r.domM (.inr ⟨_, d, h, rfl⟩)
theorem Rel.enterL (r : Rel c φ Mo s H) {ds : List D} {vs : List V} (h : RepL c φ (Ms φ Mo s) H s.sto.length ds vs) : RepL c φ (Ms φ (MoIn φ Mo s) ⟨[], s.sto⟩) H s.sto.length ds vs :=
  RepL.mv (mvM (fun a z => ms_in.mp z) (fun _ _ => rfl) (Nat.le_refl _)) _ _ h
/-! ### back again -/
def φb (φ φ' : Nm → Addr) : Nm → Addr
  | .slot i => φ (.slot i)
  | nm => φ' nm
/-- what comes back: the thing at x (if any) was the callee's to change -/
structure Back (x : Option Addr) (φ : Nm → Addr) (Mo : Addr → Prop) (s : St) (H : Hp) (φ' : Nm → Addr) (Mo' : Addr → Prop) (s' : St) (H' : Hp) : Prop where
  imm : ∀ a o, H a = some o → ¬ Ms φ Mo s a → H' a = some o
  new : ∀ a, Ms φ' Mo' s' a → Ms φ Mo s a ∨ H a = none
  outer : ∀ a, Mo a → Mo' a ∧ (x ≠ some a → ∀ o, H a = some o → H' a = some o)
  fresh : ∀ a, Mo' a → Mo a ∨ H a = none
  cell : ∀ n, n < s.sto.length → φ' (.cell n) = φ (.cell n)
  len : s.sto.length ≤ s'.sto.length
  dom : ∀ a, H a ≠ none → H' a ≠ none
  hid : ∀ nm, own s' nm = some .hid → own s nm = some .hid ∧ φ' nm = φ nm
theorem Fr.back (f : Fr φ Mo s H φ' Mo' s0 H') : Back none φ Mo s H φ' Mo' s0 H' :=
  ⟨f.imm, f.new, fun a h => ⟨(f.outer a h).1, fun _ => (f.outer a h).2⟩, f.fresh, f.cell, f.len, f.dom, f.hid⟩
theorem Frx.back {x : Addr} (f : Frx x φ Mo s H φ' Mo' s0 H') : Back (some x) φ Mo s H φ' Mo' s0 H' :=
  ⟨f.imm, f.new, fun a h => ⟨(f.outer a h).1, fun k => (f.outer a h).2 fun e => k (by rw [e])⟩, f.fresh, f.cell, f.len, f.dom, f.hid⟩
abbrev sb (s : St) (sto' : List D) : St := ⟨s.env, sto'⟩
abbrev Mob (φ : Nm → Addr) (s : St) (Mo' : Addr → Prop) (a : Addr) : Prop := Mo' a ∧ ¬ Sl φ s a
variable {x : Option Addr}
theorem own_b {i : Nat} : own (sb s sto') (.slot i) = own s (.slot i) := rfl
theorem act_b {nm : Nm} : Act (sb s sto') nm d ↔ (∃ i, nm = .slot i ∧ Act s nm d) ∨ ((∀ i, nm ≠ .slot i) ∧ Act ⟨[], sto'⟩ nm d) := by
  cases nm with
  | slot i => exact ⟨fun h => .inl ⟨i, rfl, h⟩, fun h => h.elim (fun ⟨_, _, k⟩ => k) fun k => absurd rfl (k.1 i)⟩
  | cell n => exact ⟨fun h => .inr ⟨fun i e => (by cases e), h⟩, fun h => h.elim (fun ⟨_, e, _⟩ => by cases e) fun k => k.2⟩
  | fld n f => exact ⟨fun h => .inr ⟨fun i e => (by cases e), h⟩, fun h => h.elim (fun ⟨_, e, _⟩ => by cases e) fun k => k.2⟩
theorem φb_ns {nm : Nm} (h : ∀ i, nm ≠ .slot i) : φb φ φ' nm = φ' nm := by
  cases nm with
  | slot i => exact absurd rfl (h i)
  | _ => rfl
theorem Back.sl (b : Back x φ (MoIn φ Mo s) ⟨[], s.sto⟩ H φ' Mo' ⟨[], sto'⟩ H') {a : Addr} (h : Sl φ s a) : Mo' a := (b.outer a (.inr h)).1
theorem Back.ms (b : Back x φ (MoIn φ Mo s) ⟨[], s.sto⟩ H φ' Mo' ⟨[], sto'⟩ H') {a : Addr} : Ms (φb φ φ') (Mob φ s Mo') (sb s sto') a ↔ Ms φ' Mo' ⟨[], sto'⟩ a := by
  constructor
  · rintro (h | ⟨nm, d, h, e⟩)
    · exact .inl h.1
    · rcases act_b.mp h with ⟨i, rfl, h⟩ | ⟨hn, h⟩
      · exact .inl (b.sl ⟨i, d, h, e⟩)
      · exact .inr ⟨nm, d, h, by rw [← φb_ns (φ := φ) (φ' := φ') hn]; exact e⟩
  · rintro (h | ⟨nm, d, h, e⟩)
    · by_cases hs : Sl φ s a
      · obtain ⟨i, d, k, e⟩ := hs
        exact .inr ⟨.slot i, d, k, e⟩
      · exact .inl ⟨h, hs⟩
    · exact .inr ⟨nm, d, act_b.mpr (.inr ⟨act0 h, h⟩), by rw [φb_ns (act0 h)]; exact e⟩
theorem Back.mv (b : Back x φ (MoIn φ Mo s) ⟨[], s.sto⟩ H φ' Mo' ⟨[], sto'⟩ H') : Mv φ' (φb φ φ') (Ms φ' Mo' ⟨[], sto'⟩) (Ms (φb φ φ') (Mob φ s Mo') (sb s sto')) H' H' sto'.length sto'.length :=
  mvM (fun a z => b.ms.mp z) (fun _ _ => rfl) (Nat.le_refl _)
theorem Back.mv0 (b : Back x φ (MoIn φ Mo s) ⟨[], s.sto⟩ H φ' Mo' ⟨[], sto'⟩ H') : Mv φ (φb φ φ') (Ms φ Mo s) (Ms (φb φ φ') (Mob φ s Mo') (sb s sto')) H H' s.sto.length sto'.length :=
  ⟨fun a o e hn => ⟨b.imm a o e fun z => hn (ms_in.mp z), fun z => (b.new a (b.ms.mp z)).elim (fun k => hn (ms_in.mp k)) fun k => by rw [e] at k; cases k⟩, b.cell, b.len⟩
/-- the caller's part behind a call: x was not the caller's -/
theorem Back.relE (b : Back x φ (MoIn φ Mo s) ⟨[], s.sto⟩ H φ' Mo' ⟨[], sto'⟩ H') (r0 : RelE c φ Mo s σ H) (hx : ∀ a, x = some a → ¬ Sl φ s a) (r : Rel c φ' Mo' ⟨[], sto'⟩ H') : RelE c (φb φ φ') (Mob φ s Mo') (sb s sto') σ H' where
  inj := fun nm nm' d d' h h' e => by
    rcases act_b.mp h with ⟨i, rfl, h⟩ | ⟨hn, h⟩ <;> rcases act_b.mp h' with ⟨j, rfl, h'⟩ | ⟨hn', h'⟩
    · exact r0.inj _ _ d d' h h' e
    · rw [φb_ns hn'] at e
      exact absurd (b.sl ⟨i, d, h, e⟩) (r.out _ d' h')
    · rw [φb_ns hn] at e
      exact absurd (b.sl ⟨j, d', h', e.symm⟩) (r.out _ d h)
    · rw [φb_ns hn, φb_ns hn'] at e
      exact r.inj _ _ d d' h h' e
  out := fun nm d h z => by
    rcases act_b.mp h with ⟨i, rfl, h⟩ | ⟨hn, h⟩
    · exact z.2 ⟨i, d, h, rfl⟩
    · rw [φb_ns hn] at z
      exact r.out _ d h z.1
  cnt := fun nm d h => by
    rcases act_b.mp h with ⟨i, rfl, h⟩ | ⟨hn, h⟩
    · refine (r0.cnt _ d h).mv b.mv0 ((b.outer _ (.inr ⟨i, d, h, rfl⟩)).2 fun e => hx _ e ⟨i, d, h, rfl⟩) fun n k fs f d' e => by cases e
    · rw [φb_ns hn]
      exact (r.cnt nm d h).mv b.mv (fun _ e => e) fun _ _ _ _ _ _ _ _ _ => rfl
  dom := fun a h => r.dom a h.1
  len := r0.len
  slots := fun i d h => by
    obtain ⟨v, e, k⟩ := r0.slots i d h
    refine ⟨v, e, ?_⟩
    by_cases ho : owned d = true
    · rw [if_pos ho] at k ⊢
      exact k
    · rw [if_neg ho] at k ⊢
      exact Rep.mv b.mv0 _ _ k
theorem Back.fr (b : Back x φ (MoIn φ Mo s) ⟨[], s.sto⟩ H φ' Mo' ⟨[], sto'⟩ H') (r0 : RelE c φ Mo s σ H) (hx : ∀ a, x = some a → ¬ Mo a) : Fr φ Mo s H (φb φ φ') (Mob φ s Mo') (sb s sto') H' where
  imm := fun a o e hn => b.imm a o e fun z => hn (ms_in.mp z)
  new := fun a h => (b.new a (b.ms.mp h)).imp ms_in.mp id
  outer := fun a h => ⟨⟨(b.outer a (.inl h)).1, fun ⟨i, d, k, e⟩ => r0.out _ d k (by rw [e]; exact h)⟩, (b.outer a (.inl h)).2 fun e => hx a e h⟩
  fresh := fun a h => (b.fresh a h.1).elim (fun k => k.elim .inl fun k => absurd k h.2) .inr
  cell := b.cell
  len := b.len
  dom := b.dom
  hid := fun nm h => by
    by_cases hn : ∃ i, nm = .slot i
    · obtain ⟨i, rfl⟩ := hn
      exact ⟨h, rfl⟩
    · have hn : ∀ i, nm ≠ .slot i := fun i q => hn ⟨i, q⟩
      have h' : own ⟨[], sto'⟩ nm = some .hid := by
        rw [own_sto (env' := s.env) hn]
        exact h
      have k := b.hid nm h'
      refine ⟨?_, by rw [φb_ns hn]; exact k.2⟩
      have := own_sto (env := s.env) (env' := []) (sto := s.sto) hn
      exact this.trans k.1
  slot := fun i d h => .inl ⟨⟨d, h⟩, rfl⟩
  s0 := rfl
theorem Back.post (b : Back x φ (MoIn φ Mo s) ⟨[], s.sto⟩ H φ' Mo' ⟨[], sto'⟩ H') (r0 : RelE c φ Mo s σ H) (hx : ∀ a, x = some a → ¬ MoIn φ Mo s a) (r : Rel c φ' Mo' ⟨[], sto'⟩ H') (hf : cl = true → ∀ n f, φ' (.fld n f) = φ (.fld n f)) :
    PostE c cl σ φ Mo s H (φb φ φ') (Mob φ s Mo') (sb s sto') H' :=
  ⟨b.relE r0 (fun a e z => hx a e (.inr z)) r, b.fr r0 (fun a e z => hx a e (.inl z)), fun _ => rfl, fun e n f => hf e n f⟩
/-- a value that comes back -/
theorem Back.vrep (b : Back x φ (MoIn φ Mo s) ⟨[], s.sto⟩ H φ' Mo' ⟨[], sto'⟩ H') (r0 : RelE c φ Mo s σ H) (nr : nref d) (h : VRep c φ' Mo' ⟨[], sto'⟩ H' d v) (fr : freshV H d v) : VRep c (φb φ φ') (Mob φ s Mo') (sb s sto') H' d v := by
  have tm : ∀ {a : Addr}, temp d = true → v = .ref a → Mo' a → ContAt c φ' (Ms φ' Mo' ⟨[], sto'⟩) H' sto'.length (.slot 0) d a → ∃ a, v = .ref a ∧ Mob φ s Mo' a ∧ ContAt c (φb φ φ') (Ms (φb φ φ') (Mob φ s Mo') (sb s sto')) H' sto'.length (.slot 0) d a := fun {a} ht hv ha k =>
    ⟨a, hv, ⟨ha, fun ⟨i, d', h', e⟩ => r0.domM (.inr ⟨_, d', h', e⟩) (fr ht a hv)⟩, k.mv b.mv (fun _ e => e) fun _ _ _ _ _ e => by cases e⟩
  cases d with
  | olst ds =>
    obtain ⟨a, e, k, q⟩ := h
    exact tm rfl e k q
  | odct ds =>
    obtain ⟨a, e, k, q⟩ := h
    exact tm rfl e k q
  | oobj _ ds =>
    obtain ⟨a, e, k, q⟩ := h
    exact tm rfl e k q
  | sref i => exact nr.elim
  | fref n f => exact nr.elim
  | hid => exact h
  | dead => exact h
  | non => exact h
  | bl b => exact h
  | int b => exact h
  | exc k fs => exact Rep.mv b.mv _ _ h
  | str z => exact h
  | tup ds => exact Rep.mv b.mv _ _ h
  | lst ds => exact Rep.mv b.mv _ _ h
  | dct ds => exact Rep.mv b.mv _ _ h
  | obj k ds => exact Rep.mv b.mv _ _ h
  | loc n => exact Rep.mv b.mv _ _ h
  | scr ns => exact Rep.mv b.mv _ _ h
theorem ExcR.mv {φ φ' : Nm → Addr} {Mo Mo' : Addr → Prop} {s s' : St} {H : Hp} {k : Nat} {fs : List (Nat × D)} {cls : Value} {dx : Option Addr} (h : ExcR c φ Mo s H k fs cls dx) (m : Mv φ φ' (Ms φ Mo s) (Ms φ' Mo' s') H H' s.sto.length s'.sto.length) : ExcR c φ' Mo' s' H' k fs cls dx := by
  refine ⟨h.1, h.2.1, fun hn => ?_⟩
  obtain ⟨dd, us, e, n, e2, q⟩ := h.2.2 hn
  refine ⟨dd, us, e, (m.at_ dd _ e2 n).2, (m.at_ dd _ e2 n).1, RepX.mv m _ _ q⟩
theorem Back.excR (b : Back x φ (MoIn φ Mo s) ⟨[], s.sto⟩ H φ' Mo' ⟨[], sto'⟩ H') {k : Nat} {fs : List (Nat × D)} {cls : Value} {dx : Option Addr} (h : ExcR c φ' Mo' ⟨[], sto'⟩ H' k fs cls dx) : ExcR c (φb φ φ') (Mob φ s Mo') (sb s sto') H' k fs cls dx := h.mv b.mv
/-! ### a thing of its own becomes a cell -/
def φc (φ : Nm → Addr) (L : Nat) (p : Addr) (nm : Nm) : Addr := if nm = .cell L then p else φ nm
abbrev sc (s : St) (d : D) : St := ⟨s.env, s.sto ++ [d]⟩
theorem φc_ne {L : Nat} {p : Addr} {nm : Nm} (h : nm ≠ .cell L) : φc φ L p nm = φ nm := if_neg h
theorem φc_eq {L : Nat} {p : Addr} : φc φ L p (.cell L) = p := if_pos rfl
theorem own_sc {nm : Nm} (hd : ∀ f, fldO (some d) f = none ∨ ∃ x, fldO (some d) f = some x ∧ owned x = false) : (nm = .cell s.sto.length ∧ own (sc s d) nm = (some d).filter owned) ∨ (nm ≠ .cell s.sto.length ∧ own (sc s d) nm = own s nm) := by
  cases nm with
  | slot i => exact .inr ⟨fun e => (by cases e), rfl⟩
  | cell n =>
    by_cases hn : n = s.sto.length
    · subst hn
      refine .inl ⟨rfl, ?_⟩
      show ((s.sto ++ [d])[s.sto.length]?).filter owned = _
      rw [List.getElem?_append_right (Nat.le_refl _)]
      simp
    · refine .inr ⟨fun e => hn (by cases e; rfl), ?_⟩
      show ((s.sto ++ [d])[n]?).filter owned = (s.sto[n]?).filter owned
      by_cases hl : n < s.sto.length
      · rw [List.getElem?_append_left hl]
      · rw [List.getElem?_eq_none (l := s.sto) (by omega), List.getElem?_eq_none (l := s.sto ++ [d]) (by rw [List.length_append, List.length_singleton]; omega)]
  | fld n f =>
    refine .inr ⟨fun e => (by cases e), ?_⟩
    show (fldO (s.sto ++ [d])[n]? f).filter owned = (fldO s.sto[n]? f).filter owned
    by_cases hl : n < s.sto.length
    · rw [List.getElem?_append_left hl]
    · rw [List.getElem?_eq_none (l := s.sto) (by omega)]
      by_cases hn : n = s.sto.length
      · subst hn
        rw [List.getElem?_append_right (Nat.le_refl _)]
        rw [show ([d] : List D)[s.sto.length - s.sto.length]? = some d from by simp]
        rcases hd f with e | ⟨x, e, o⟩
        · rw [e]
          rfl
        · rw [e]
          show (some x).filter owned = none
          simp [Option.filter, o]
      · rw [List.getElem?_eq_none (l := s.sto ++ [d]) (by rw [List.length_append, List.length_singleton]; omega)]
theorem cont_cell {M : Addr → Prop} {L m : Nat} {p : Addr} (t : temp d = true) (h : ContAt c φ M H L (.slot 0) d p) : ContAt c φ M H L (.cell m) d p := by
  cases d with
  | olst ds => exact h
  | odct ds => exact h
  | oobj k fs =>
    obtain ⟨hk, nd, dx, us, e, r⟩ := h
    exact ⟨hk, nd, dx, us, e, repF_O (repO_F r)⟩
  | _ => cases t
theorem repO_nown {M : Addr → Prop} {L : Nat} {i : Nat} : ∀ {fs : List (Nat × D)} {us : List (Str × V)}, RepO c φ M H L (.slot i) fs us → ∀ f x, fs.lookup f = some x → owned x = false
  | [], us, h, f, x, e => by cases e
  | (g, d0) :: r, us, h, f, x, e => by
    obtain ⟨hg, v, ws, rfl, r0, t⟩ := h
    rw [List.lookup_cons] at e
    cases q : (f == g) with
    | true =>
      rw [q] at e
      cases e
      cases ho : owned d0 with
      | false => rfl
      | true =>
        rw [if_pos ho] at r0
        obtain ⟨n, e, _⟩ := r0
        cases e
    | false =>
      rw [q] at e
      exact repO_nown t f x e
theorem cont_nown {M : Addr → Prop} {L : Nat} {p : Addr} (t : temp d = true) (h : ContAt c φ M H L (.slot 0) d p) (f : Nat) : fldO (some d) f = none ∨ ∃ x, fldO (some d) f = some x ∧ owned x = false := by
  cases d with
  | olst ds => exact .inl rfl
  | odct ds => exact .inl rfl
  | oobj k fs =>
    obtain ⟨hk, nd, dx, us, e, r⟩ := h
    show fs.lookup f = none ∨ _
    cases q : fs.lookup f with
    | none => exact .inl rfl
    | some x => exact .inr ⟨x, q, repO_nown r f x q⟩
  | _ => cases t
theorem cell_new (P : PostE c cl σ φ0 Mo0 s0 H0 φ Mo s H) (r0 : ∀ a, Mo0 a → H0 a ≠ none) {p : Addr} (hp : Mo p) (h0 : H0 p = none) (t : temp d = true) (k : ContAt c φ (Ms φ Mo s) H s.sto.length (.slot 0) d p) :
    PostE c cl σ φ0 Mo0 s0 H0 (φc φ s.sto.length p) (fun x => Mo x ∧ x ≠ p) (sc s d) H := by
  have hd := cont_nown t k
  have act : ∀ {nm x}, Act (sc s d) nm x ↔ (nm = .cell s.sto.length ∧ x = d) ∨ (nm ≠ .cell s.sto.length ∧ Act s nm x) := fun {nm x} => by
    rcases own_sc (s := s) (nm := nm) hd with ⟨e, q⟩ | ⟨e, q⟩
    · constructor
      · rintro ⟨h, _⟩
        rw [q] at h
        exact .inl ⟨e, by
          have := (Option.filter_eq_some_iff.mp h).1
          cases this
          rfl⟩
      · rintro (⟨_, rfl⟩ | ⟨h, _⟩)
        · refine ⟨?_, (temp_owned t).2⟩
          rw [q]
          exact Option.filter_eq_some_iff.mpr ⟨rfl, (temp_owned t).1⟩
        · exact absurd e h
    · constructor
      · rintro ⟨h, h2⟩
        rw [q] at h
        exact .inr ⟨e, h, h2⟩
      · rintro (⟨h, _⟩ | ⟨_, h⟩)
        · exact absurd h e
        · exact ⟨by rw [q]; exact h.1, h.2⟩
  have nocell : ∀ {x}, ¬ Act s (.cell s.sto.length) x := fun {x} h => by
    have := (own_iff.mp h.1).1
    have e : raw s (.cell s.sto.length) = none := List.getElem?_eq_none (Nat.le_refl _)
    rw [e] at this
    cases this
  have ms : ∀ a, Ms (φc φ s.sto.length p) (fun x => Mo x ∧ x ≠ p) (sc s d) a ↔ Ms φ Mo s a := fun a => by
    constructor
    · rintro (h | ⟨nm, x, h, e⟩)
      · exact .inl h.1
      · rcases act.mp h with ⟨rfl, _⟩ | ⟨hn, h⟩
        · rw [φc_eq] at e
          subst e
          exact .inl hp
        · rw [φc_ne hn] at e
          exact .inr ⟨nm, x, h, e⟩
    · rintro (h | ⟨nm, x, h, e⟩)
      · by_cases ha : a = p
        · subst ha
          exact .inr ⟨.cell s.sto.length, d, act.mpr (.inl ⟨rfl, rfl⟩), φc_eq⟩
        · exact .inl ⟨h, ha⟩
      · have hn : nm ≠ .cell s.sto.length := fun e => by
          subst e
          exact nocell h
        exact .inr ⟨nm, x, act.mpr (.inr ⟨hn, h⟩), by rw [φc_ne hn]; exact e⟩
  have mv : Mv φ (φc φ s.sto.length p) (Ms φ Mo s) (Ms (φc φ s.sto.length p) (fun x => Mo x ∧ x ≠ p) (sc s d)) H H s.sto.length (sc s d).sto.length :=
    mvM (fun a z => (ms a).mp z) (fun n hn => φc_ne fun e => by
      cases e
      exact Nat.lt_irrefl _ hn) (by rw [List.length_append]; omega)
  refine ⟨⟨⟨?_, ?_, ?_, fun a h => P.rel.dom a h.1⟩, P.rel.len, ?_⟩, ⟨P.fr.imm, fun a h => P.fr.new a ((ms a).mp h), fun a h => ⟨⟨(P.fr.outer a h).1, fun e => r0 a h (by rw [e]; exact h0)⟩, (P.fr.outer a h).2⟩, fun a h => P.fr.fresh a h.1, ?_, ?_, P.fr.dom, ?_, ?_, by rw [φc_ne fun e => by cases e]; exact P.fr.s0⟩, ?_, ?_⟩
  · intro nm nm' x x' h h' e
    rcases act.mp h with ⟨rfl, _⟩ | ⟨hn, h⟩ <;> rcases act.mp h' with ⟨rfl, _⟩ | ⟨hn', h'⟩
    · rfl
    · rw [φc_eq, φc_ne hn'] at e
      exact absurd (by rw [← e]; exact hp) (P.rel.out _ _ h')
    · rw [φc_eq, φc_ne hn] at e
      exact absurd (by rw [e]; exact hp) (P.rel.out _ _ h)
    · rw [φc_ne hn, φc_ne hn'] at e
      exact P.rel.inj _ _ _ _ h h' e
  · intro nm x h z
    rcases act.mp h with ⟨rfl, _⟩ | ⟨hn, h⟩
    · rw [φc_eq] at z
      exact z.2 rfl
    · rw [φc_ne hn] at z
      exact P.rel.out _ _ h z.1
  · intro nm x h
    rcases act.mp h with ⟨rfl, rfl⟩ | ⟨hn, h⟩
    · rw [φc_eq]
      exact cont_cell t (k.mv mv (fun _ e => e) fun n k fs f d' e => by cases e)
    · rw [φc_ne hn]
      exact (P.rel.cnt nm x h).mv mv (fun _ e => e) fun n k fs f d' _ _ _ _ => φc_ne fun e => by cases e
  · intro i x h
    obtain ⟨v, e, q⟩ := P.rel.slots i x h
    refine ⟨v, e, ?_⟩
    by_cases ho : owned x = true
    · rw [if_pos ho] at q ⊢
      rw [φc_ne fun e => by cases e]
      exact q
    · rw [if_neg ho] at q ⊢
      exact Rep.mv mv _ _ q
  · intro n hn
    rw [φc_ne fun e => by
      cases e
      exact absurd (Nat.lt_of_lt_of_le hn P.fr.len) (Nat.lt_irrefl _)]
    exact P.fr.cell n hn
  · rw [List.length_append]
    have := P.fr.len
    omega
  · intro nm h
    rcases own_sc (s := s) (nm := nm) hd with ⟨e, q⟩ | ⟨e, q⟩
    · rw [q] at h
      have := (Option.filter_eq_some_iff.mp h).1
      cases this
      cases t
    · rw [q] at h
      rw [φc_ne e]
      exact P.fr.hid nm h
  · intro i x h
    rcases act.mp h with ⟨e, _⟩ | ⟨hn, h⟩
    · cases e
    · rw [φc_ne hn]
      exact P.fr.slot i x h
  · intro i
    rw [φc_ne fun e => by cases e]
    exact P.slots i
  · intro e n f
    rw [φc_ne fun e => by cases e]
    exact P.fld e n f
end
end TR
end

section
set_option Elab.async false
set_option linter.all false
set_option maxRecDepth 100000
set_option autoImplicit false
/-! TrExp4: cells, constants of the module, calls. -/
namespace TR
open PySem L2
section
variable {T : Tb} {F : Fi} {c : Cz} {n : Nms} {N : List Str}
variable {W : Wx} {X : Cx} {a b d t : E} {ea eb ed et : Expr} {p : Pos} {sc0 : Scope} {k : Nat}
theorem cel_to {σ : L2.St} {H : Hp} {Q : VK} (h : TE' T F c W (.cel a) σ H Q) : TE' T F c W a σ H Q := by
  obtain ⟨φ, Mo, s, rel, h⟩ := h
  rw [evE] at h
  refine tE_of (cl2 := a.calm T) finE (PostE.refl (cl := true) rel) (fun e => ⟨rfl, e⟩) h fun x xv φ1 Mo1 s1 H1 P1 v1 f1 h1 => ?_
  have go : ∀ d, temp d = true → VRep c φ1 Mo1 s1 H1 d xv → freshV H d xv → OutE c W ((E.cel a).calm T) σ φ Mo s H (.ok (.loc s1.sto.length) { s1 with sto := s1.sto ++ [d] }) Q → Q xv H1 := fun d ht v1 f1 h1 => by
    obtain ⟨ad, ev, ha, k⟩ := v1.tmp ht
    have P2 := cell_new P1 rel.dom ha (f1 ht ad ev) ht k
    exact h1 xv _ _ H1 P2 ⟨by rw [List.length_append, List.length_singleton]; omega, by rw [φc_eq]; exact ev⟩ fun z => by cases z
  cases x with
  | olst ds => exact go _ rfl v1 f1 h1
  | odct ds => exact go _ rfl v1 f1 h1
  | _ => exact h1.elim
theorem snd_cel (ha : PE X ea (TE' T F c W a)) : PE X ea (TE' T F c W (.cel a)) := PE.mono ha fun σ H Q h => cel_to h
theorem snd_glob {g : Nat} (st : StF T c n X.mg) (hg : Gl X (n.gn g)) (hd : (n.gn g == ("__debug__" : Str)) = false) : PE X (.Name (n.gn g) p) (TE' T F c W (.glob g)) := by
  cases e : T.glob g with
  | none =>
    refine ⟨fun pins s σ H Q I hq => ?_⟩
    obtain ⟨φ, Mo, s, rel, h⟩ := hq
    rw [evE, e] at h
    exact h.elim
  | some d =>
    obtain ⟨u, v, e1, e2, e3⟩ := st.glb g d e
    exact snd_c (pe_glob hg e1 e2 hd) (fun s => by rw [evE, e]; rfl) e3
/-! ### calls -/
/-- a call's wish, from what is done with its outcome -/
theorem of_outs {σ : L2.St} {H2 : Hp} {Q : VK} {φ2 : Nm → Addr} {Mo2 : Addr → Prop} {s2 : St} {f : Nat} {gc : Bool} {ds : List D} {vs : List V} (rel : RelE c φ2 Mo2 s2 σ H2) (r : RepL c φ2 (Ms φ2 Mo2 s2) H2 s2.sto.length ds vs)
    (hs : F false f ds s2.sto ≠ .stuck)
    (hx : ∀ k fs s', F false f ds s2.sto = .exc k fs s' → ∀ cls dx φ' Mo' H', PostE c gc σ φ2 Mo2 s2 H2 φ' Mo' (sb s2 s'.sto) H' → ExcR c φ' Mo' (sb s2 s'.sto) H' k fs cls dx → W cls dx σ H')
    (hk : ∀ d s', F false f ds s2.sto = .ok d s' → ∀ v φ' Mo' H', PostE c gc σ φ2 Mo2 s2 H2 φ' Mo' (sb s2 s'.sto) H' → VRep c φ' Mo' (sb s2 s'.sto) H' d v → freshV H2 d v → Q v H') : spF c F gc f vs H2 Q (WE W σ) := by
  refine .inl ⟨φ2, MoIn φ2 Mo2 s2, s2.sto, ds, rel.toRel.enter, rel.toRel.enterL r, ?_⟩
  cases e : F false f ds s2.sto with
  | stuck => exact absurd e hs
  | exc k' fs s' =>
    intro cls dx φ' Mo' H' r' fr hf x
    have b := fr.back
    exact hx k' fs s' e cls dx _ _ H' (b.post (cl := gc) rel (fun a e => by cases e) r' fun e => hf e) (b.excR x)
  | ok d s' =>
    intro v φ' Mo' H' nr r' fr hf vr fv
    have b := fr.back
    exact hk d s' e v _ _ H' (b.post (cl := gc) rel (fun a e => by cases e) r' fun e => hf e) (b.vrep rel nr vr fv) fv
theorem of_out {σ : L2.St} {H : Hp} {Q : VK} {cl cl2 : Bool} {φ φ2 : Nm → Addr} {Mo Mo2 : Addr → Prop} {s s2 : St} {H2 : Hp} {f : Nat} {gc : Bool} {ds : List D} {vs : List V} (hcl : cl = true → cl2 = true ∧ gc = true)
    (P : PostE c cl2 σ φ Mo s H φ2 Mo2 s2 H2) (r : RepL c φ2 (Ms φ2 Mo2 s2) H2 s2.sto.length ds vs) (h : OutE c W cl σ φ Mo s H (callR F false f ds s2) Q) : spF c F gc f vs H2 Q (WE W σ) := by
  unfold callR at h
  refine of_outs P.rel r (fun e => ?_) (fun k fs s' e cls dx φ' Mo' H' P2 x => ?_) fun d s' e v φ' Mo' H' P2 vr fv => ?_
  · rw [e] at h
    exact h.elim
  · rw [e] at h
    exact h cls dx φ' Mo' H' (P.trans P2 hcl) x
  · rw [e] at h
    exact h v φ' Mo' H' (P.trans P2 hcl) vr (fv.back P.fr.dom)
/-- what is known of a class's field names -/
theorem repO_no {φ : Nm → Addr} {M : Addr → Prop} {H : Hp} {L : Nat} {nm : Nm} {m : Str} (hm : ∀ f, c.ha f = true → c.an f ≠ m) : ∀ {fs : List (Nat × D)} {us : List (Str × V)}, RepO c φ M H L nm fs us → us.lookup m = none
  | [], us, h => by
    rw [show us = [] from h]
    rfl
  | (g, d0) :: r, us, h => by
    obtain ⟨hg, v, ws, rfl, r0, t⟩ := h
    have : (m == c.an g) = false := by simpa using fun e : m = c.an g => hm g hg e.symm
    rw [List.lookup_cons, this]
    exact repO_no hm t
/-- an object: where it lies -/
theorem obj_at {φ : Nm → Addr} {Mo : Addr → Prop} {s : St} {H : Hp} {x : D} {xv : V} {k : Nat} {fs : List (Nat × D)} {m : Str} (r : Rel c φ Mo s H) (hm : ∀ f, c.ha f = true → c.an f ≠ m) (v : VRep c φ Mo s H x xv) (e : asObj s x = some (k, fs)) :
    c.hc k = true ∧ ∃ a dx us, xv = .ref a ∧ H a = some (.ins (c.ct k) dx us) ∧ us.lookup m = none := by
  unfold asObj at e
  split at e
  · rename_i e4
    cases e
    obtain ⟨hk, ad, dx, us, ev, nm, e4, r⟩ := contV r v e4
    exact ⟨hk, ad, dx, us, ev, e4, repO_no (nm := .slot 0) hm (repF_O r)⟩
  · rename_i e4
    cases e
    obtain ⟨hk, ad, nm, dx, us, ev, nd, e4, r⟩ := contV r v e4
    exact ⟨hk, ad, dx, us, ev, e4, repO_no hm r⟩
  · cases e
/-- the arguments of a call: none, or some -/
structure Args (T : Tb) (F : Fi) (c : Cz) (W : Wx) (X : Cx) (a : E) (es : List Expr) : Prop where
  pa : PA X es (TA' T F c W a)
  nil : es = [] → a = .nil
  star : ∀ x ∈ starEach es X.env, x.1 = false
  plain : ∀ e ∈ es, plainX e = true
  few : es.length < 20
theorem Args.tail {e : Expr} {es : List Expr} (A : Args T F c W X a (e :: es)) (pos : Pos) : starEach (e :: es) X.env = (false, eval e X.env) :: starEach es X.env ∧ (backTo pos (starEach es X.env)).any (·.1) = false := by
  have h := star_cons (es := es) (env := X.env) (A.plain e List.mem_cons_self)
  exact ⟨h, backTo_any fun x hx => A.star x (by rw [h]; exact List.mem_cons_of_mem _ hx)⟩
theorem snd_call {f : Nat} {es : List Expr} {q : Pos} (G : Gd T F c n N sc0 W k X false) (hgf : n.gf f = true) (hg : Gl X (n.fn f)) (A : Args T F c W X a es) : PE X (.Call (.Name (n.fn f) p) es [] q) (TE' T F c W (.call f a)) := by
  cases ef : T.fn f with
  | none =>
    refine ⟨fun pins s σ H Q I hq => ?_⟩
    obtain ⟨φ, Mo, s, rel, h⟩ := hq
    rw [evE, ef] at h
    exact h.elim
  | some fd =>
    have key : ∀ σ H Q, TE' T F c W (.call f a) σ H Q → TA' T F c W a σ H fun vs H1 => spF c F fd.gc f vs H1 Q (WE W σ) := fun σ H Q hq => by
      obtain ⟨φ, Mo, s, rel, h⟩ := hq
      rw [evE, if_pos (by rw [ef]; rfl)] at h
      have hcl : (E.call f a).calm T = true → a.calm T = true ∧ fd.gc = true := fun e => by
        have e' : ((match T.fn f with | some fd => fd.gc | none => false) && a.calm T) = true := e
        rw [ef] at e'
        exact ⟨(and_split e').2, (and_split e').1⟩
      exact tA_of finE (PostE.refl (cl := true) rel) (fun e => ⟨rfl, (hcl e).1⟩) h fun ds vs φ2 Mo2 s2 H2 P r h2 => of_out hcl P r h2
    have fok := G.fok rfl f fd ef
    have hr := (G.room rfl).mono (Nat.le_succ k)
    cases es with
    | nil =>
      have ea := A.nil rfl
      subst ea
      refine PE.mono (pe_callS0 fok hr hg (G.st.gfn f fd ef hgf) (by rw [G.K_]; exact G.st.keep f fd ef) (by rw [G.K_]; exact G.st.bind f fd ef) (G.pas rfl) (G.st.nd f)) fun σ H Q h => ?_
      exact nilA_to (key σ H Q h)
    | cons e es =>
      have := A.tail q
      exact PE.mono (pe_callS fok hr hg (G.st.gfn f fd ef hgf) (by rw [G.K_]; exact G.st.keep f fd ef) (by rw [G.K_]; exact G.st.bind f fd ef) (G.pas rfl) A.pa (G.st.nd f) this.1 this.2) key
theorem snd_callH {f : Nat} {es : List Expr} {q : Pos} (G : Gd T F c n N sc0 W k X true) (hs : c.hs f = true) (hgf : n.gf f = true) (hg : Gl X (n.fn f)) (A : Args T F c W X a es) : PE X (.Call (.Name (n.fn f) p) es [] q) (TE' T F c W (.call f a)) := by
  cases ef : T.fn f with
  | none =>
    refine ⟨fun pins s σ H Q I hq => ?_⟩
    obtain ⟨φ, Mo, s, rel, h⟩ := hq
    rw [evE, ef] at h
    exact h.elim
  | some fd =>
    have hw := G.w0 rfl
    subst hw
    have key : ∀ σ H Q, TE' T F c (fun _ _ _ _ => False) (.call f a) σ H Q → tCallH (spF c F fd.gc f) (TA' T F c (fun _ _ _ _ => False) a) σ H Q := fun σ H Q hq => by
      obtain ⟨φ, Mo, s, rel, h⟩ := hq
      rw [evE, if_pos (by rw [ef]; rfl)] at h
      have hcl : (E.call f a).calm T = true → a.calm T = true ∧ fd.gc = true := fun e => by
        have e' : ((match T.fn f with | some fd => fd.gc | none => false) && a.calm T) = true := e
        rw [ef] at e'
        exact ⟨(and_split e').2, (and_split e').1⟩
      exact tA_of finE (PostE.refl (cl := true) rel) (fun e => ⟨rfl, (hcl e).1⟩) h fun ds vs φ2 Mo2 s2 H2 P r h2 => of_out hcl P r h2
    have fok := G.hok f fd ef hs
    have hr := G.roomH.mono (Nat.le_succ k)
    cases es with
    | nil =>
      have ea := A.nil rfl
      subst ea
      refine PE.mono (pe_callHt0 fok hr hg (G.st.gfn f fd ef hgf) (by rw [G.K_]; exact G.st.keep f fd ef) (by rw [G.K_]; exact G.st.bind f fd ef) (G.st.nd f)) fun σ H Q h => ?_
      exact nilA_to (key σ H Q h)
    | cons e es =>
      have := A.tail q
      exact PE.mono (pe_callHt fok hr hg (G.st.gfn f fd ef hgf) (by rw [G.K_]; exact G.st.keep f fd ef) (by rw [G.K_]; exact G.st.bind f fd ef) A.pa (G.st.nd f) this.1 this.2) key
/-! ### a method's call -/
theorem recv_rep {φ : Nm → Addr} {Mo : Addr → Prop} {s : St} {H : Hp} {x : D} {v : V} (h : recvOk x = true) (r : VRep c φ Mo s H x v) : Rep c φ (Ms φ Mo s) H s.sto.length x v := by
  cases x <;> first | (cases h; done) | exact r
theorem snd_mth {m : Nat} {eo : Expr} {o : E} {es : List Expr} {q : Pos} (G : Gd T F c n N sc0 W k X false) (hs : noSup eo) (hl : (p.endLine == q.line) = true) (ho : PE X eo (TE' T F c W o)) (A : Args T F c W X a es) : PE X (.Call (.Attribute eo (n.mn m) p) es [] q) (TE' T F c W (.mth o m a)) := by
  let OK : Addr → Sp → Prop := fun C sp => ∃ k0 f fd, c.hc k0 = true ∧ C = c.ct k0 ∧ T.mth k0 m = some f ∧ T.fn f = some fd ∧ sp = spF c F fd.gc f
  have hOK : ∀ C sp, OK C sp → Cls X.K C ∧ ∃ f fd ps, Meth X.K C (n.mn m) f ∧ FnOk X.prog X.w X.K X.mg X.base (CXX X) k f fd ps sp ∧ Binds X.K fd ps [] := fun C sp ⟨k0, f, fd, h1, h2, h3, h4, h5⟩ => by
    subst h2 h5
    rw [G.K_]
    have := G.fok rfl f fd h4
    rw [G.K_] at this
    exact ⟨(G.st.cls k0 h1).1, _, _, _, (G.st.meth k0 m f h1 h3).1, this, G.st.bind f fd h4⟩
  have key : ∀ σ H Q, TE' T F c W (.mth o m a) σ H Q → tMethD OK (n.mn m) (WE W) (TE' T F c W o) (TA' T F c W a) σ H Q := fun σ H Q hq => by
    obtain ⟨φ, Mo, s, rel, h⟩ := hq
    rw [evE] at h
    have hc1 : (E.mth o m a).calm T = true → o.calm T = true ∧ a.calm T = true ∧ T.mgc m = true := fun e => ⟨(and_split (and_split e).1).2, (and_split e).2, (and_split (and_split e).1).1⟩
    refine tE_of finE (PostE.refl (cl := true) rel) (fun e => ⟨rfl, (hc1 e).1⟩) h fun x xv φ1 Mo1 s1 H1 P1 v1 f1 h1 => ?_
    have h1 : OutE c W ((E.mth o m a).calm T) σ φ Mo s H (if recvOk x then (match asObj s1 x with
      | some (c, _) => (match T.mth c m with
        | some f => (evA T F a s1).bind fun ds s => callR F false f (x :: ds) s
        | none => .stuck)
      | none => .stuck) else .stuck) Q := h1
    cases hr : recvOk x with
    | false =>
      rw [hr] at h1
      exact h1.elim
    | true =>
      rw [hr, if_pos rfl] at h1
      cases e1 : asObj s1 x with
      | none =>
        rw [e1] at h1
        exact h1.elim
      | some kf =>
        obtain ⟨k0, fs⟩ := kf
        rw [e1] at h1
        have h1 : OutE c W ((E.mth o m a).calm T) σ φ Mo s H (match T.mth k0 m with
          | some f => (evA T F a s1).bind fun ds s => callR F false f (x :: ds) s
          | none => .stuck) Q := h1
        cases e2 : T.mth k0 m with
        | none =>
          rw [e2] at h1
          exact h1.elim
        | some f =>
          rw [e2] at h1
          obtain ⟨hk, ad, dx, us, ev, e3, e4⟩ := obj_at (m := n.mn m) P1.rel.toRel (fun f hf => G.st.anmn f m hf) v1 e1
          obtain ⟨_, fd, e5⟩ := G.st.meth k0 m f hk e2
          have hc2 : (E.mth o m a).calm T = true → (o.calm T && a.calm T) = true ∧ fd.gc = true := fun e => ⟨by rw [(hc1 e).1, (hc1 e).2.1]; rfl, G.st.mgc m (hc1 e).2.2 k0 f fd e2 e5⟩
          refine ⟨c.ct k0, spF c F fd.gc f, ad, dx, us, ⟨k0, f, fd, hk, rfl, e2, e5, rfl⟩, ev, e3, e4, ?_⟩
          refine tA_of finE P1 (fun e => ⟨(hc1 e).1, (hc1 e).2.1⟩) h1 fun ds vs φ2 Mo2 s2 H2 P2 r h2 => ?_
          exact of_out (ds := x :: ds) (vs := xv :: vs) hc2 (P1.trans P2 and_split) ⟨xv, vs, rfl, Rep.mv P2.fr.mv _ _ (recv_rep hr v1), r⟩ h2
  have hr := (G.room rfl).mono (Nat.le_succ k)
  cases es with
  | nil =>
    have ea := A.nil rfl
    subst ea
    refine PE.mono (pe_methD0 ho hOK hr (G.pas rfl) (mcall_ok (fun x h => by cases h) (by decide) hs hl)) fun σ H Q h => ?_
    obtain ⟨C, h⟩ : ∃ _ : Unit, TE' T F c W o σ H fun x H1 => ∃ C sp a dx fs, OK C sp ∧ x = .ref a ∧ H1 a = some (.ins C dx fs) ∧ fs.lookup (n.mn m) = none ∧ TA' T F c W .nil σ H1 fun vs H2 => sp (x :: vs) H2 Q (WE W σ) := ⟨(), key σ H Q h⟩
    exact tE_weak h fun v H1 ⟨C, sp, a, dx, fs, h1, h2, h3, h4, h5⟩ => ⟨C, sp, a, dx, fs, h1, h2, h3, h4, nilA_to h5⟩
  | cons e es =>
    have := A.tail q
    exact PE.mono (pe_methD ho hOK hr (G.pas rfl) A.pa this.1 this.2 (mcall_ok A.star A.few hs hl)) key
where
  tE_weak {cl : Bool} {r : St → R D} {σ : L2.St} {H : Hp} {Q Q' : VK} (h : tE c W cl r σ H Q) (w : ∀ v H', Q v H' → Q' v H') : tE c W cl r σ H Q' := by
    obtain ⟨φ, Mo, s, rel, h⟩ := h
    refine ⟨φ, Mo, s, rel, ?_⟩
    cases e : r s with
    | stuck =>
      rw [e] at h
      exact h
    | exc k fs s' =>
      rw [e] at h
      exact h
    | ok d s' =>
      rw [e] at h
      exact fun v φ' Mo' H' P vr fr => w _ _ (h v φ' Mo' H' P vr fr)
/-! ### a new object -/
theorem grow_two {Mo : Addr → Prop} {H : Hp} {x dx : Addr} {o o' : HO} (hx : H x = none) (hd : H dx = none) : Grow Mo (fun a => Mo a ∨ a = x) H (upd (upd H dx o') x o) :=
  ⟨fun a u h => by rw [upd_ne (ne_of_none h hx), upd_ne (ne_of_none h hd)]; exact h, fun _ h => .inl h, fun a h => h.imp id fun e => by rw [e]; exact hx,
    fun a h => h.imp id fun e => by
      rw [e, upd_same]
      exact fun z => by cases z⟩
theorem Frx.back_new {φ φ' : Nm → Addr} {Mo MoX Mo' : Addr → Prop} {s s' : St} {H HX H' : Hp} {x : Addr} (g : Grow Mo MoX H HX) (r : Rel c φ Mo s H) (hx : ∀ a, MoX a → Mo a ∨ a = x) (h0 : H x = none) (f : Frx x φ MoX s HX φ' Mo' s' H') : Back none φ Mo s H φ' Mo' s' H' where
  imm := fun a o h hn => f.imm a o (g.keep a o h) fun z => (g.ms z).elim hn fun e => by
    rw [h] at e
    cases e
  new := fun a h => (f.new a h).elim g.ms fun e => .inr (none_back g.hdom e)
  outer := fun a h => ⟨(f.outer a (g.more a h)).1, fun _ o e => (f.outer a (g.more a h)).2 (fun z => r.dom a h (by rw [z]; exact h0)) o (g.keep a o e)⟩
  fresh := fun a h => (f.fresh a h).elim (g.new a) fun e => .inr (none_back g.hdom e)
  cell := f.cell
  len := f.len
  dom := fun a h => f.dom a (g.hdom a h)
  hid := f.hid
theorem temp_nref {d : D} (h : temp d = true) : nref d := by
  cases d <;> first | (cases h; done) | trivial
theorem snd_mk {k0 : Nat} {f : Nat} {es : List Expr} {q : Pos} (G : Gd T F c n N sc0 W k X false) (hi : T.ini k0 = some (some f)) (hg : Gl X (n.cn k0)) (hd : (n.cn k0 == ("__debug__" : Str)) = false) (A : Args T F c W X a es) : PE X (.Call (.Name (n.cn k0) p) es [] q) (TE' T F c W (.mk k0 a)) := by
  obtain ⟨hM, hk, fd, ef⟩ := G.st.mak k0 f hi
  have key : ∀ σ H Q, TE' T F c W (.mk k0 a) σ H Q → tMakeW (c.ct k0) (spF c F fd.gc f) (WE W) (TA' T F c W a) σ H Q := fun σ H Q hq => by
    obtain ⟨φ, Mo, s, rel, h⟩ := hq
    rw [evE, hi] at h
    refine tA_of finE (PostE.refl (cl := true) rel) (fun e => ⟨rfl, e⟩) h fun ds vs φ2 Mo2 s2 H2 P r h2 => ?_
    intro x dx hx hdx hne
    have g := grow_two (Mo := MoIn φ2 Mo2 s2) (o := .ins (c.ct k0) dx []) (o' := .own x) hx hdx
    have ren := P.rel.toRel.enter
    refine .inr ⟨φ2, fun a => MoIn φ2 Mo2 s2 a ∨ a = x, s2.sto, ds, k0, x, vs, dx, rfl, upd_same, hk, .inr rfl, ren.grow g, RepL.mv (g.fr (φ := φ2) (s := ⟨[], s2.sto⟩)).mv _ _ (P.rel.toRel.enterL r), ?_⟩
    have h2 : OutE c W ((E.mk k0 a).calm T) σ φ Mo s H (callR F true f (.oobj k0 [] :: ds) s2) Q := h2
    unfold callR at h2
    cases e : F true f (.oobj k0 [] :: ds) s2.sto with
    | stuck =>
      rw [e] at h2
      exact h2.elim
    | exc k' fs s' =>
      rw [e] at h2
      intro cls dx' φ' Mo' H' r' fr x'
      have b := fr.back_new g ren (fun a h => h) hx
      exact h2 cls dx' _ _ H' (P.trans (b.post (cl := true) P.rel (fun a e => by cases e) r' fun _ => fr.fld) fun e => ⟨e, rfl⟩) (b.excR x')
    | ok d s' =>
      rw [e] at h2
      intro φ' Mo' H' ht r' fr ct
      have b := fr.back_new g ren (fun a h => h) hx
      have vr : VRep c φ' Mo' ⟨[], s'.sto⟩ H' d (.ref x) := by
        have hm := (fr.outer x (.inr rfl)).1
        cases d <;> first | (cases ht; done) | exact ⟨x, rfl, hm, ct⟩
      have fv : freshV H2 d (.ref x) := fun _ a e => by
        cases e
        exact hx
      exact ⟨rfl, h2 (.ref x) _ _ H' (P.trans (b.post (cl := true) P.rel (fun a e => by cases e) r' fun _ => fr.fld) fun e => ⟨e, rfl⟩) (b.vrep P.rel (temp_nref ht) vr fv) (fv.back P.fr.dom)⟩
  have fok := G.fok rfl f fd ef
  have hm : X.mg (n.cn k0) = some (.ref (c.ct k0)) := (G.st.cls k0 hk).2
  cases es with
  | nil =>
    have ea := A.nil rfl
    subst ea
    refine PE.mono (pe_makeW0 (by rw [G.K_]; exact hM) fok (G.room rfl) hg hm (by rw [G.K_]; exact G.st.bind f fd ef) (G.pas rfl) hd) fun σ H Q h => ?_
    exact nilA_to (key σ H Q h)
  | cons e es =>
    have := A.tail q
    exact PE.mono (pe_makeW (by rw [G.K_]; exact hM) fok (G.room rfl) hg hm (by rw [G.K_]; exact G.st.bind f fd ef) (G.pas rfl) A.pa hd this.1 this.2) key
theorem snd_mk0 {k0 : Nat} {q : Pos} (G : Gd T F c n N sc0 W k X false) (hi : T.ini k0 = some none) (hg : Gl X (n.cn k0)) (hd : (n.cn k0 == ("__debug__" : Str)) = false) : PE X (.Call (.Name (n.cn k0) p) [] [] q) (TE' T F c W (.mk k0 .nil)) := by
  obtain ⟨hM, hk⟩ := G.st.mk0 k0 hi
  have hm : X.mg (n.cn k0) = some (.ref (c.ct k0)) := (G.st.cls k0 hk).2
  refine PE.mono (pe_make0 (by rw [G.K_]; exact hM) hg hm hd) fun σ H Q hq => ?_
  obtain ⟨φ, Mo, s, rel, h⟩ := hq
  rw [evE, hi] at h
  intro x dx hx hdx hne
  have g := grow_two (Mo := Mo) (o := .ins (c.ct k0) dx []) (o' := .own x) hx hdx
  refine told_of (PostE.refl rel) h _ _ _ (PostE.grow rel g) ⟨x, rfl, .inr rfl, hk, List.nodup_nil, dx, [], upd_same, rfl⟩ fun _ a e => ?_
  cases e
  exact hx
theorem snd_mkc {k0 : Nat} {f : Nat} {es : List Expr} {q : Pos} (G : Gd T F c n N sc0 W k X false) (hi : T.ini k0 = some (some f)) (hg : Gl X (n.cn k0)) (hd : (n.cn k0 == ("__debug__" : Str)) = false) (A : Args T F c W X a es) : PE X (.Call (.Name (n.cn k0) p) es [] q) (TE' T F c W (.mkc k0 a)) := by
  obtain ⟨hM, hk, fd, ef⟩ := G.st.mak k0 f hi
  have key : ∀ σ H Q, TE' T F c W (.mkc k0 a) σ H Q → tMakeW (c.ct k0) (spF c F fd.gc f) (WE W) (TA' T F c W a) σ H Q := fun σ H Q hq => by
    obtain ⟨φ, Mo, s, rel, h⟩ := hq
    rw [evE, hi] at h
    refine tA_of finE (PostE.refl (cl := true) rel) (fun e => by cases e) h fun ds vs φ2 Mo2 s2 H2 P r h2 => ?_
    intro x dx hx hdx hne
    have g := grow_two (Mo := Mo2) (o := .ins (c.ct k0) dx []) (o' := .own x) hx hdx
    have hx0 : H x = none := none_back P.fr.dom hx
    have Pg := P.trans (cl := false) (PostE.grow (cl := true) P.rel g) (fun e => by cases e)
    have P3 := cell_new Pg rel.dom (p := x) (.inr rfl) hx0 (d := .oobj k0 []) rfl ⟨hk, List.nodup_nil, dx, [], upd_same, rfl⟩
    have h2 : OutE c W ((E.mkc k0 a).calm T) σ φ Mo s H ((callR F false f (.loc s2.sto.length :: ds) (sc s2 (.oobj k0 []))).bind fun d s' => (match d with
      | .non => .ok (.loc s2.sto.length) s'
      | _ => .stuck)) Q := h2
    have rl : RepL c (φc φ2 s2.sto.length x) (Ms (φc φ2 s2.sto.length x) (fun y => (Mo2 y ∨ y = x) ∧ y ≠ x) (sc s2 (.oobj k0 []))) (upd (upd H2 dx (.own x)) x (.ins (c.ct k0) dx [])) (sc s2 (.oobj k0 [])).sto.length (.loc s2.sto.length :: ds) (.ref x :: vs) := by
      refine ⟨.ref x, vs, rfl, ⟨by rw [List.length_append, List.length_singleton]; omega, by rw [φc_eq]⟩, ?_⟩
      refine RepL.mv ⟨fun a o e hn => ⟨g.keep a o e, fun z => ?_⟩, fun m hm => φc_ne fun e => ?_, by rw [List.length_append]; omega⟩ _ _ r
      · rcases z with z | ⟨nm, y, z, e2⟩
        · exact z.1.elim (fun k => hn (.inl k)) z.2
        · rcases own_sc (s := s2) (nm := nm) (d := .oobj k0 []) (fun f => .inl rfl) with ⟨e3, q⟩ | ⟨e3, q⟩
          · rw [e3, φc_eq] at e2
            rw [← e2, hx] at e
            cases e
          · rw [φc_ne e3] at e2
            exact hn (.inr ⟨nm, y, ⟨by rw [← q]; exact z.1, z.2⟩, e2⟩)
      · cases e
        exact Nat.lt_irrefl _ hm
    unfold callR at h2
    refine of_outs P3.rel rl (fun e => ?_) (fun k' fs s' e cls dx' φ' Mo' H' P4 x' => ?_) fun d s' e v φ' Mo' H' P4 vr fv => ?_
    · rw [e] at h2
      exact h2.elim
    · rw [e] at h2
      exact h2 cls dx' φ' Mo' H' (P3.trans P4 fun e => by cases e) x'
    · rw [e] at h2
      cases d with
      | non =>
        refine ⟨vr, h2 (.ref x) φ' Mo' H' (P3.trans P4 fun e => by cases e) ⟨?_, ?_⟩ fun z => by cases z⟩
        · have := P4.fr.len
          rw [List.length_append, List.length_singleton] at this
          exact Nat.lt_of_lt_of_le (Nat.lt_succ_self _) this
        · rw [P4.fr.cell _ (by rw [List.length_append, List.length_singleton]; omega), φc_eq]
      | _ => exact h2.elim
  have fok := G.fok rfl f fd ef
  have hm : X.mg (n.cn k0) = some (.ref (c.ct k0)) := (G.st.cls k0 hk).2
  cases es with
  | nil =>
    have ea := A.nil rfl
    subst ea
    refine PE.mono (pe_makeW0 (by rw [G.K_]; exact hM) fok (G.room rfl) hg hm (by rw [G.K_]; exact G.st.bind f fd ef) (G.pas rfl) hd) fun σ H Q h => ?_
    exact nilA_to (key σ H Q h)
  | cons e es =>
    have := A.tail q
    exact PE.mono (pe_makeW (by rw [G.K_]; exact hM) fok (G.room rfl) hg hm (by rw [G.K_]; exact G.st.bind f fd ef) (G.pas rfl) A.pa hd this.1 this.2) key
end
end TR
end

section
set_option Elab.async false
set_option linter.all false
set_option maxRecDepth 100000
set_option autoImplicit false
/-! TrExp5: built-in functions and methods. -/
namespace TR
open PySem L2
section
variable {T : Tb} {F : Fi} {c : Cz} {n : Nms} {N : List Str}
variable {W : Wx} {X : Cx} {a b d t : E} {ea eb ed et : Expr} {p : Pos} {sc0 : Scope} {k : Nat}
def rBi (K : PySem.W.Frag) : Bi → List V → Hp → VK → Prop
  | .len => rLenA K | .int => fun vs H Q => rIntA vs H Q ∨ (∃ a n, vs = [.str a] ∧ PySem.intText? a = some n ∧ a.length ≤ 640 ∧ Q (.int n) H) | .str => (fun xs H Q => ∃ i, xs = [.int i] ∧ i.natAbs.log2 < 1920 ∧ Q (.str (toString i)) H) | .list => rListA K | .dict => rDictA | .sorted => rSortA K | .max => rMaxA | .min => rMinA | .sum => rSum K
  | _ => fun _ _ _ => False
theorem vlen {φ : Nm → Addr} {Mo : Addr → Prop} {s : St} {H : Hp} : ∀ {ds : List D} {vs : List V}, VRepL c φ Mo s H ds vs → vs.length = ds.length
  | [], vs, h => by
    rw [show vs = [] from h]
    rfl
  | d :: ds, vs, h => by
    obtain ⟨v, ws, rfl, _, t⟩ := h
    rw [List.length_cons, List.length_cons, vlen t]
theorem bi_ok (b : Bi) {φ : Nm → Addr} {Mo : Addr → Prop} {s : St} {σ : L2.St} {H : Hp} (r : RelE c φ Mo s σ H) {ds : List D} {e : D} {vs : List V} (h : VRepL c φ Mo s H ds vs) (eq : biD b s ds = some e) {Q : VK} (q : Told c σ φ Mo s H e Q) : rBi c.K b vs H Q := by
  have one : ∀ {d}, ds = [d] → ∃ v, vs = [v] ∧ VRep c φ Mo s H d v := fun {d} e => by
    subst e
    exact vone h
  unfold biD at eq
  split at eq
  · obtain ⟨v, rfl, hv⟩ := one rfl
    exact len_ok r hv eq q
  · obtain ⟨v, rfl, hv⟩ := one rfl
    cases eq
    exact .inl (.inl ⟨_, by rw [show v = _ from hv], told_int r q⟩)
  · obtain ⟨v, rfl, hv⟩ := one rfl
    cases eq
    exact .inl (.inr ⟨_, by rw [show v = _ from hv], told_int r q⟩)
  · obtain ⟨v, rfl, hv⟩ := one rfl
    rw [Option.map_eq_some_iff] at eq
    obtain ⟨i, e1, rfl⟩ := eq
    obtain ⟨h1, h2⟩ := readI_is e1
    exact .inr ⟨_, _, by rw [show v = _ from hv.1], h1, h2, told_int r q⟩
  · obtain ⟨v, rfl, hv⟩ := one rfl
    split at eq
    · rename_i hb
      cases eq
      refine ⟨_, by rw [show v = _ from hv], log_ok hb, ?_⟩
      have := told_str r q (showI_ok hb)
      rw [tx_showI] at this
      exact this
    · cases eq
  · obtain ⟨v, rfl, hv⟩ := one rfl
    exact list_ok r hv eq q
  · obtain ⟨v, rfl, hv⟩ := one rfl
    exact dict_ok r hv eq q
  · obtain ⟨v, rfl, hv⟩ := one rfl
    exact sort_ok r hv eq q
  · obtain ⟨v, w, rfl, hv, hw⟩ := vtwo h
    cases eq
    exact ⟨_, _, by rw [show v = _ from hv, show w = _ from hw], told_int r q⟩
  · obtain ⟨v, w, rfl, hv, hw⟩ := vtwo h
    cases eq
    exact ⟨_, _, by rw [show v = _ from hv, show w = _ from hw], told_int r q⟩
  · obtain ⟨v, rfl, hv⟩ := one rfl
    exact sum_ok r hv eq q
  · cases eq
/-- the arguments as they are -/
structure ArgB (T : Tb) (F : Fi) (c : Cz) (W : Wx) (X : Cx) (a : E) (es : List Expr) : Prop where
  pa : PA X es (TB' T F c W a)
  nil : es = [] → a = .nil
  star : ∀ x ∈ starEach es X.env, x.1 = false
  plain : ∀ e ∈ es, plainX e = true
  few : es.length < 20
theorem ArgB.tail {e : Expr} {es : List Expr} (A : ArgB T F c W X a (e :: es)) (pos : Pos) : starEach (e :: es) X.env = (false, eval e X.env) :: starEach es X.env ∧ (backTo pos (starEach es X.env)).any (·.1) = false := by
  have h := star_cons (es := es) (env := X.env) (A.plain e List.mem_cons_self)
  exact ⟨h, backTo_any fun x hx => A.star x (by rw [h]; exact List.mem_cons_of_mem _ hx)⟩
theorem bi_to {b : Bi} {σ : L2.St} {H : Hp} {Q : VK} (h : TE' T F c W (.bi b a) σ H Q) : tCB (rBi c.K b) (TB' T F c W a) σ H Q := by
  obtain ⟨φ, Mo, s, rel, h⟩ := h
  rw [evE] at h
  refine tB_of finE (PostE.refl (cl := true) rel) (fun e => ⟨rfl, e⟩) h fun ds vs φ1 Mo1 s1 H1 P1 v1 f1 h1 => ?_
  obtain ⟨d, e, h1⟩ := of_some h1
  exact bi_ok b P1.rel v1 e (told_of P1 h1)
theorem arity_pos (b : Bi) : arity b ≠ 0 := by cases b <;> decide
theorem snd_bi {b : Bi} {es : List Expr} {q : Pos} (hK : X.K = c.K) (hc : hotB b = false → X.calm = true) (hg : Gl X (biName b)) (hm : X.mg (biName b) = none) (hl : es.length = arity b) (A : ArgB T F c W X a es) : PE X (.Call (.Name (biName b) p) es [] q) (TE' T F c W (.bi b a)) := by
  cases es with
  | nil => exact absurd hl.symm (arity_pos b)
  | cons e es =>
    have h := A.tail q
    have go : PE X (.Call (.Name (biName b) p) (e :: es) [] q) (tCB (rBi X.K b) (TB' T F c W a)) := by
      cases b with
      | len => exact pe_callB call_len hg hm (by decide +kernel) A.pa (he := h.1) (hpl := h.2)
      | int => exact pe_callTy (call_int1.or call_int_str) hg hm (by decide +kernel) A.pa (he := h.1) (hpl := h.2)
      | list => exact pe_callTy (call_list_of.or (call_list_txt (hc rfl))) hg hm (by decide +kernel) A.pa (he := h.1) (hpl := h.2)
      | dict => exact pe_callTy call_dictD hg hm (by decide +kernel) A.pa (he := h.1) (hpl := h.2)
      | sorted => exact pe_callB (cr_sortedS.or (call_sortedD (hc rfl))) hg hm (by decide +kernel) A.pa (he := h.1) (hpl := h.2)
      | max => exact pe_callB (call_max2 (hc rfl)) hg hm (by decide +kernel) A.pa (he := h.1) (hpl := h.2)
      | min => exact pe_callB (call_min2 (hc rfl)) hg hm (by decide +kernel) A.pa (he := h.1) (hpl := h.2)
      | sum => exact pe_callB (cr_sum (hc rfl)) hg hm (by decide +kernel) A.pa (he := h.1) (hpl := h.2)
      | str => exact pe_callTy call_str_int hg hm (by decide +kernel) A.pa (he := h.1) (hpl := h.2)
      | lrev => exact pe_callTy (T := "list") (r := fun _ _ _ => False) (fun _ _ _ _ _ _ _ _ _ z => z.elim) hg hm (by decide +kernel) A.pa (he := h.1) (hpl := h.2)
    rw [hK] at go
    exact PE.mono go fun σ H Q h => bi_to h
/-! ### methods -/
def bmTy : Bm → String
  | .join => "str" | .split => "str" | .startswith => "str" | .partition => "str" | .get => "dict" | .update => "dict" | _ => "list"
theorem rk_ty {b : Bm} {φ : Nm → Addr} {Mo : Addr → Prop} {s : St} {H : Hp} {x : D} {xv : V} (r : Rel c φ Mo s H) (hb : b ≠ .partition ∧ b ≠ .get ∧ b ≠ .update) (h : rk b s x = true) (v : VRep c φ Mo s H x xv) : tyV c.K (bmTy b) xv H := by
  have st : ∀ z, x = .str z → tyV c.K "str" xv H := fun z e => by
    subst e
    rw [show xv = .str (tx z) from v.1]
    rfl
  have li : (asLst s x).isSome = true → tyV c.K "list" xv H := fun h => by
    obtain ⟨ds, e⟩ := Option.isSome_iff_exists.mp h
    obtain ⟨ad, vs, rfl, e2, _⟩ := lst_of r v e
    exact .inl ⟨rfl, vs, .inl (.inl e2)⟩
  cases b with
  | join => cases x <;> first | (cases h; done) | exact st _ rfl
  | split => cases x <;> first | (cases h; done) | exact st _ rfl
  | startswith => cases x <;> first | (cases h; done) | exact st _ rfl
  | partition => exact absurd rfl hb.1
  | get => exact absurd rfl hb.2.1
  | update => exact absurd rfl hb.2.2
  | _ => exact li h
theorem bm_noexc {b : Bm} {s s' : St} {x : D} {ds : List D} {k : Nat} {fs : List (Nat × D)} : bmD b s x ds ≠ .exc k fs s' := by
  intro h
  unfold bmD at h
  split at h
  · rename_i d
    cases e : esc s d with
    | ok d2 s2 =>
      rw [e] at h
      have h : (match nmOf x with
        | some nm => (match own s2 nm with
          | some (.olst xs) => if xs.length < lim then .ok .non (putAt s2 nm (.olst (xs ++ [d2]))) else .stuck
          | _ => .stuck)
        | none => .stuck) = (.exc k fs s' : R D) := h
      repeat' split at h
      all_goals cases h
    | exc k2 fs2 s2 => exact esc_noexc e
    | stuck =>
      rw [e] at h
      cases h
  · repeat' split at h
    all_goals cases h
  · rename_i i d
    cases e : esc s d with
    | ok d2 s2 =>
      rw [e] at h
      have h : (match nmOf x with
        | some nm => (match own s2 nm with
          | some (.olst xs) => if xs.length < lim ∧ 0 ≤ i ∧ i ≤ xs.length then .ok .non (putAt s2 nm (.olst (xs.take i.toNat ++ d2 :: xs.drop i.toNat))) else .stuck
          | _ => .stuck)
        | none => .stuck) = (.exc k fs s' : R D) := h
      repeat' split at h
      all_goals cases h
    | exc k2 fs2 s2 => exact esc_noexc e
    | stuck =>
      rw [e] at h
      cases h
  all_goals
    repeat' split at h
    all_goals cases h
theorem bm_to {b : Bm} {o : E} (hb : b ≠ .partition ∧ b ≠ .get ∧ b ≠ .update) {σ : L2.St} {H : Hp} {Q : VK} (h : TE' T F c W (.bm b o a) σ H Q) : tBM c.K (bmTy b) (rBm c.K b) (TE' T F c W o) (TB' T F c W a) σ H Q := by
  obtain ⟨φ, Mo, s, rel, h⟩ := h
  rw [evE] at h
  refine tE_of finE (PostE.refl (cl := true) rel) (fun e => ⟨rfl, (and_split e).1⟩) h fun x xv φ1 Mo1 s1 H1 P1 v1 f1 h1 => ?_
  have h1 : OutE c W ((E.bm b o a).calm T) σ φ Mo s H (if (isF x && !a.calm T) || !rk b s1 x then .stuck else (evB T F a s1).bind fun ds s => bmD b s x ds) Q := h1
  obtain ⟨hf, h1⟩ := not_stuck h1
  rw [Bool.or_eq_false_iff] at hf
  obtain ⟨hf, hr⟩ := hf
  refine ⟨rk_ty P1.rel.toRel hb (by simpa using hr) v1, ?_⟩
  refine tB_of finE P1 and_split h1 fun ds vs φ2 Mo2 s2 H2 P2 v2 f2 h2 => ?_
  cases e : bmD b s2 x ds with
  | stuck =>
    rw [e] at h2
    exact h2.elim
  | exc k fs s3 => exact absurd e bm_noexc
  | ok d s3 =>
    rw [e] at h2
    have P := P1.trans P2 and_split
    exact bm_ok b P rel.dom (P2.vrep (isF_calm hf) v1) v2 (argB_to.fresh_back f2 P1.fr.dom) e h2
theorem snd_bm {b : Bm} {o : E} {eo : Expr} {es : List Expr} {q : Pos} (hK : X.K = c.K) (hs : noSup eo) (hl : (p.endLine == q.line) = true) (hn : es = [] ↔ (b = .pop ∨ b = .clear)) (hb : b ≠ .partition ∧ b ≠ .get ∧ b ≠ .update) (ho : PE X eo (TE' T F c W o)) (A : ArgB T F c W X a es) :
    PE X (.Call (.Attribute eo (bmName b) p) es [] q) (TE' T F c W (.bm b o a)) := by
  cases es with
  | nil =>
    have ea := A.nil rfl
    subst ea
    have go : PE X (.Call (.Attribute eo (bmName b) p) [] [] q) (tBM0 X.K (bmTy b) (rBm X.K b) (TE' T F c W o)) := by
      rcases hn.mp rfl with rfl | rfl
      · exact pe_bm0 PySem.F.plainAttrs_list PySem.F.slot_list_pop PySem.F.type_list_pop mt_pop ho (sup_plain hs) hl
      · exact pe_bm0 PySem.F.plainAttrs_list PySem.F.slot_list_clear PySem.F.type_list_clear mt_clear ho (sup_plain hs) hl
    rw [hK] at go
    refine PE.mono go fun σ H Q h => ?_
    have h : TE' T F c W o σ H fun x H1 => tyV c.K (bmTy b) x H1 ∧ TB' T F c W .nil σ H1 fun xs H2 => rBm c.K b x xs H2 Q := bm_to hb h
    exact snd_mth.tE_weak h fun v H1 h => ⟨h.1, nilB_to h.2⟩
  | cons e es =>
    have h := A.tail q
    have few := few_ok (pos := q) A.star A.few
    have hb' : b ≠ .pop ∧ b ≠ .clear := ⟨fun e => (by cases hn.mpr (.inl e)), fun e => (by cases hn.mpr (.inr e))⟩
    have go : PE X (.Call (.Attribute eo (bmName b) p) (e :: es) [] q) (tBM X.K (bmTy b) (rBm X.K b) (TE' T F c W o) (TB' T F c W a)) := by
      cases b with
      | append => exact pe_bm PySem.F.plainAttrs_list PySem.F.slot_list_append PySem.F.type_list_append mt_append ho A.pa (sup_plain hs) few hl h.1 h.2
      | extend => exact pe_bm PySem.F.plainAttrs_list PySem.F.slot_list_extend PySem.F.type_list_extend mt_extend ho A.pa (sup_plain hs) few hl h.1 h.2
      | insert => exact pe_bm PySem.F.plainAttrs_list PySem.F.slot_list_insert PySem.F.type_list_insert mt_insert ho A.pa (sup_plain hs) few hl h.1 h.2
      | index => exact pe_bm PySem.F.plainAttrs_list PySem.F.slot_list_index PySem.F.type_list_index mt_index ho A.pa (sup_plain hs) few hl h.1 h.2
      | join => exact pe_bm PySem.F.plainAttrs_str PySem.F.slot_str_join PySem.F.type_str_join mt_join ho A.pa (sup_plain hs) few hl h.1 h.2
      | split => exact pe_bm PySem.F.plainAttrs_str PySem.F.slot_str_split PySem.F.type_str_split mt_split ho A.pa (sup_plain hs) few hl h.1 h.2
      | startswith => exact pe_bm PySem.F.plainAttrs_str PySem.F.slot_str_startswith PySem.F.type_str_startswith mt_startswith3 ho A.pa (sup_plain hs) few hl h.1 h.2
      | pop => exact absurd rfl hb'.1
      | clear => exact absurd rfl hb'.2
      | partition => exact absurd rfl hb.1
      | get => exact absurd rfl hb.2.1
      | update => exact absurd rfl hb.2.2
    rw [hK] at go
    exact PE.mono go fun σ H Q h => bm_to hb h
end
end TR
end

section
set_option Elab.async false
set_option linter.all false
set_option maxRecDepth 100000
set_option autoImplicit false
/-! TrLoop: what is walked, hidden meanwhile and shown again. -/
namespace TR
open PySem L2
section
variable {c : Cz} {φ φ2 : Nm → Addr} {Mo Mo2 : Addr → Prop} {s s1 s2 s3 : St} {σ σ2 : L2.St} {H H2 : Hp} {ns : List Nm} {ps : Option (Nm × D)} {nm : Nm} {ds : List D}
/-- the hidden thing counts as the caller's -/
def MoH (φ : Nm → Addr) (Mo : Addr → Prop) (ps : Option (Nm × D)) (a : Addr) : Prop := Mo a ∨ ∃ nm d, ps = some (nm, d) ∧ a = φ nm
def MoU (φ : Nm → Addr) (ps : Option (Nm × D)) (Mo2 : Addr → Prop) (a : Addr) : Prop := Mo2 a ∧ ∀ nm d, ps = some (nm, d) → a ≠ φ nm
theorem hide_is (e : hide s ns = some (s1, ps)) : (ns = [] ∧ s1 = s ∧ ps = none) ∨ ∃ nm ds, ns = [nm] ∧ own s nm = some (.olst ds) ∧ s1 = putAt s nm .hid ∧ ps = some (nm, .olst ds) := by
  unfold hide at e
  split at e
  · cases e
    exact .inl ⟨rfl, rfl, rfl⟩
  · split at e
    · rename_i h
      cases e
      exact .inr ⟨_, _, rfl, h, rfl, rfl⟩
    · cases e
  · cases e
theorem moH_none {a : Addr} : MoH φ Mo none a ↔ Mo a := ⟨fun h => h.elim id fun ⟨_, _, e, _⟩ => (by cases e), Or.inl⟩
theorem moH_some {a : Addr} {d : D} : MoH φ Mo (some (nm, d)) a ↔ Mo a ∨ a = φ nm := ⟨fun h => h.imp id fun ⟨_, _, e, q⟩ => (by cases e; exact q), fun h => h.imp id fun q => ⟨_, _, rfl, q⟩⟩
theorem env_hid {d : D} (e : own s nm = some d) : (putAt s nm .hid).env.length = s.env.length := putAt_env e
/-- the names that own something behind the hiding -/
theorem act_hid (po : PutOk s s1 nm (.olst ds) .hid) {nm' : Nm} {x : D} (h : Act s1 nm' x) : nm' ≠ nm ∧ ∃ y, Act s nm' y := by
  have hn : nm' ≠ nm := fun e => by
    subst e
    have := h.1
    rw [po.here] at this
    exact h.2 (Option.some.inj this).symm
  exact ⟨hn, (po.other rfl hn).mpr ⟨x, h⟩⟩
theorem ms_hid (po : PutOk s s1 nm (.olst ds) .hid) (e : own s nm = some (.olst ds)) (a : Addr) : Ms φ (MoH φ Mo (some (nm, .olst ds))) s1 a ↔ Ms φ Mo s a := by
  constructor
  · rintro (h | ⟨nm', x, h, q⟩)
    · rcases moH_some.mp h with h | h
      · exact .inl h
      · exact .inr ⟨nm, _, ⟨e, by intro z; cases z⟩, h.symm⟩
    · obtain ⟨_, y, hy⟩ := act_hid po h
      exact .inr ⟨nm', y, hy, q⟩
  · rintro (h | ⟨nm', x, h, q⟩)
    · exact .inl (.inl h)
    · by_cases hn : nm' = nm
      · subst hn
        exact .inl (.inr ⟨_, _, rfl, q.symm⟩)
      · obtain ⟨y, hy⟩ := (po.other rfl hn).mp ⟨x, h⟩
        exact .inr ⟨nm', y, hy, q⟩
theorem ms_hide (e : hide s ns = some (s1, ps)) (a : Addr) : Ms φ (MoH φ Mo ps) s1 a ↔ Ms φ Mo s a := by
  rcases hide_is e with ⟨_, rfl, rfl⟩ | ⟨nm, ds, _, h, rfl, rfl⟩
  · exact ⟨fun h => h.imp moH_none.mp id, fun h => h.imp moH_none.mpr id⟩
  · exact ms_hid (putOk h rfl rfl) h a
theorem sto_hide (e : hide s ns = some (s1, ps)) : s1.sto.length = s.sto.length := by
  rcases hide_is e with ⟨_, rfl, rfl⟩ | ⟨nm, ds, _, h, rfl, rfl⟩
  · rfl
  · exact (putOk (d := .hid) h rfl rfl).sto
theorem mv_hide (e : hide s ns = some (s1, ps)) : Mv φ φ (Ms φ Mo s) (Ms φ (MoH φ Mo ps) s1) H H s.sto.length s1.sto.length := mvM (fun a h => (ms_hide e a).mp h) (fun _ _ => rfl) (by rw [sto_hide e]; exact Nat.le_refl _)
theorem hide_ok (r : RelE c φ Mo s σ H) (e : hide s ns = some (s1, ps)) : RelE c φ (MoH φ Mo ps) s1 σ H := by
  have mv := mv_hide (φ := φ) (Mo := Mo) (H := H) e
  have hM := ms_hide (φ := φ) (Mo := Mo) e
  rcases hide_is e with ⟨_, rfl, rfl⟩ | ⟨nm, ds, _, h, rfl, rfl⟩
  · have : MoH φ Mo none = Mo := funext fun a => propext moH_none
    rw [this]
    exact r
  · have po := putOk (d := .hid) h rfl rfl
    have act : Act s nm (.olst ds) := ⟨h, by intro z; cases z⟩
    have r' := r.toRel.next (Mo' := MoH φ Mo (some (nm, .olst ds))) (H' := H) po rfl rfl (.inr ⟨nm, _, act, rfl⟩) hM (fun _ _ => rfl) (fun z => absurd rfl z) (fun a h => moH_some.mp h)
      (fun a h => (moH_some.mp h).elim (r.dom a) fun q => by
        rw [q]
        exact r.domM (.inr ⟨nm, _, act, rfl⟩)) fun nm' x hx hn q => hn (r.inj nm' nm x _ hx act q)
    refine { r' with len := by rw [env_hid h]; exact r.len, slots := fun i x q => ?_ }
    rw [po.env i] at q
    by_cases hn : nm = .slot i
    · subst hn
      rw [if_pos rfl] at q
      cases q
      obtain ⟨v, e1, e2⟩ := r.slots i _ (slot_env h)
      exact ⟨v, e1, e2⟩
    · rw [if_neg hn] at q
      obtain ⟨v, e1, e2⟩ := r.slots i x q
      refine ⟨v, e1, ?_⟩
      by_cases ho : owned x = true
      · rw [if_pos ho] at e2 ⊢
        exact e2
      · rw [if_neg ho] at e2 ⊢
        exact Rep.mv mv _ _ e2
theorem unhide_is (e : unhide s2 ps = some s3) : (ps = none ∧ s3 = s2) ∨ ∃ nm d, ps = some (nm, d) ∧ own s2 nm = some .hid ∧ s3 = putAt s2 nm d := by
  unfold unhide at e
  split at e
  · cases e
    exact .inl ⟨rfl, rfl⟩
  · split at e
    · rename_i h
      cases e
      exact .inr ⟨_, _, rfl, h, rfl⟩
    · cases e
/-- the hidden thing shown again: the loop's part -/
theorem unhide_ok (r : RelE c φ Mo s σ H) (e : hide s ns = some (s1, ps)) (f : Fr φ (MoH φ Mo ps) s1 H φ2 Mo2 s2 H2) (r2 : RelE c φ2 Mo2 s2 σ2 H2) (e2 : unhide s2 ps = some s3) :
    RelE c φ2 (MoU φ ps Mo2) s3 σ2 H2 ∧ Fr φ Mo s H φ2 (MoU φ ps Mo2) s3 H2 ∧ (∀ a, Ms φ2 (MoU φ ps Mo2) s3 a ↔ Ms φ2 Mo2 s2 a) ∧ s3.sto.length = s2.sto.length := by
  have hM1 := ms_hide (φ := φ) (Mo := Mo) e
  rcases hide_is e with ⟨_, e3, e4⟩ | ⟨nm, ds, _, h, e3, e4⟩
  · subst e3 e4
    rcases unhide_is e2 with ⟨_, rfl⟩ | ⟨_, _, e5, _⟩
    · have q1 : MoH φ Mo none = Mo := funext fun a => propext moH_none
      have q2 : MoU φ none Mo2 = Mo2 := funext fun a => propext ⟨fun h => h.1, fun h => ⟨h, fun _ _ e => (by cases e)⟩⟩
      rw [q1] at f
      rw [q2]
      exact ⟨r2, f, fun _ => Iff.rfl, rfl⟩
    · cases e5
  · subst e3 e4
    rcases unhide_is e2 with ⟨e5, _⟩ | ⟨nm', d, e5, h2, e6⟩
    · cases e5
    cases e5
    subst e6
    have po := putOk (d := .hid) h rfl rfl
    have po2 := putOk (d := .olst ds) h2 rfl rfl
    have act : Act s nm (.olst ds) := ⟨h, by intro z; cases z⟩
    have hφ : φ2 nm = φ nm := (f.hid nm h2).2
    have hMo2 : Mo2 (φ nm) := (f.outer _ (.inr ⟨nm, _, rfl, rfl⟩)).1
    have uM : ∀ {a}, MoU φ (some (nm, D.olst ds)) Mo2 a ↔ Mo2 a ∧ a ≠ φ nm := ⟨fun h => ⟨h.1, h.2 nm _ rfl⟩, fun h => ⟨h.1, fun _ _ e => (by cases e; exact h.2)⟩⟩
    have nact : ∀ nm' x, Act s2 nm' x → φ2 nm' ≠ φ2 nm := fun nm' x hx q => r2.out nm' x hx (by rw [q, hφ]; exact hMo2)
    have hM2 : ∀ a, Ms φ2 (MoU φ (some (nm, .olst ds)) Mo2) (putAt s2 nm (.olst ds)) a ↔ Ms φ2 Mo2 s2 a := fun a => by
      constructor
      · rintro (q | ⟨nm', x, hx, q⟩)
        · exact .inl q.1
        · by_cases hn : nm' = nm
          · subst hn
            exact .inl (by rw [← q, hφ]; exact hMo2)
          · obtain ⟨y, hy⟩ := (po2.other rfl hn).mpr ⟨x, hx⟩
            exact .inr ⟨nm', y, hy, q⟩
      · rintro (q | ⟨nm', x, hx, q⟩)
        · by_cases ha : a = φ nm
          · exact .inr ⟨nm, _, ⟨po2.here, by intro z; cases z⟩, by rw [hφ, ha]⟩
          · exact .inl (uM.mpr ⟨q, ha⟩)
        · have hn : nm' ≠ nm := fun z => by
            subst z
            have := hx.1
            rw [h2] at this
            exact hx.2 (Option.some.inj this).symm
          obtain ⟨y, hy⟩ := (po2.other rfl hn).mp ⟨x, hx⟩
          exact .inr ⟨nm', y, hy, q⟩
    obtain ⟨vs, c1, c2⟩ := r.cnt nm _ act
    have fMv : Mv φ φ2 (Ms φ Mo s) (Ms φ2 Mo2 s2) H H2 s.sto.length s2.sto.length := ⟨fun a o e hn => f.mv.at_ a o e fun z => hn ((hM1 a).mp z), fun n hn => f.mv.cell n (by rw [po.sto]; exact hn), by have := f.len; rw [po.sto] at this; exact this⟩
    have cn : ContAt c φ2 (Ms φ2 Mo2 s2) H2 s2.sto.length nm (.olst ds) (φ2 nm) := ⟨vs, by rw [hφ]; exact (f.outer _ (.inr ⟨nm, _, rfl, rfl⟩)).2 _ c1, RepL.mv fMv _ _ c2⟩
    have r3 := r2.toRel.next (Mo' := MoU φ (some (nm, .olst ds)) Mo2) (H' := H2) po2 rfl rfl (.inl (by rw [hφ]; exact hMo2)) hM2 (fun _ _ => rfl) (fun _ => ⟨cn, fun z => (uM.mp z).2 hφ⟩) (fun a h => .inl h.1) (fun a h => r2.dom a h.1) fun nm' x hx hn => nact nm' x hx
    have mv2 : Mv φ2 φ2 (Ms φ2 Mo2 s2) (Ms φ2 (MoU φ (some (nm, .olst ds)) Mo2) (putAt s2 nm (.olst ds))) H2 H2 s2.sto.length (putAt s2 nm (.olst ds)).sto.length := mvM (fun a h => (hM2 a).mp h) (fun _ _ => rfl) (by rw [po2.sto]; exact Nat.le_refl _)
    refine ⟨{ r3 with len := by rw [putAt_env h2]; exact r2.len, slots := fun i x q => ?_ }, ⟨fun a o ea hn => f.imm a o ea fun z => hn ((hM1 a).mp z), fun a ha => (f.new a ((hM2 a).mp ha)).imp (hM1 a).mp id, fun a ha => ?_, fun a ha => ?_, fun n hn => f.cell n (by rw [po.sto]; exact hn), ?_, f.dom, fun nm' hh => ?_, fun i x hx => ?_, f.s0⟩, hM2, po2.sto⟩
    · rw [po2.env i] at q
      by_cases hn : nm = .slot i
      · subst hn
        rw [if_pos rfl] at q
        cases q
        obtain ⟨v, e1, e2⟩ := r2.slots i _ (slot_env h2)
        exact ⟨v, e1, e2⟩
      · rw [if_neg hn] at q
        obtain ⟨v, e1, e2⟩ := r2.slots i x q
        refine ⟨v, e1, ?_⟩
        by_cases ho : owned x = true
        · rw [if_pos ho] at e2 ⊢
          exact e2
        · rw [if_neg ho] at e2 ⊢
          exact Rep.mv mv2 _ _ e2
    · refine ⟨uM.mpr ⟨(f.outer a (.inl ha)).1, fun z => r.out nm _ act (by rw [← z]; exact ha)⟩, (f.outer a (.inl ha)).2⟩
    · obtain ⟨h1, h2⟩ := uM.mp ha
      rcases f.fresh a h1 with q | q
      · rcases moH_some.mp q with q | q
        · exact .inl q
        · exact absurd q h2
      · exact .inr q
    · rw [po2.sto]
      have := f.len
      rw [po.sto] at this
      exact this
    · have k := f.hid nm' (po2.hidEq (by intro z; cases z) hh)
      refine ⟨?_, k.2⟩
      have hn : nm' ≠ nm := fun z => by
        subst z
        rw [po2.here] at hh
        cases hh
      by_cases hc : ∃ n f, nm = .fld n f ∧ nm' = .cell n
      · obtain ⟨n, f, e1, e2⟩ := hc
        obtain ⟨k', fs, q1, q2, _⟩ := po.cell n f e1
        subst e2
        rw [q2] at k
        cases k.1
      · rw [← po.same nm' hn fun n f h2 h3 => hc ⟨n, f, h2, h3⟩]
        exact k.1
    · by_cases hn : nm = .slot i
      · subst hn
        exact .inl ⟨⟨_, act⟩, hφ⟩
      · obtain ⟨y, hy⟩ := (po2.other rfl (nm' := .slot i) (fun z => hn z.symm)).mpr ⟨x, hx⟩
        rcases f.slot i y hy with ⟨⟨d0, h0⟩, q⟩ | q
        · exact .inl ⟨(act_hid po h0).2, q⟩
        · exact .inr q
end
end TR
end

section
set_option Elab.async false
set_option linter.all false
set_option maxRecDepth 100000
set_option autoImplicit false
/-! TrSrc: the iterators and what they give. -/
namespace TR
open PySem L2
section
variable {T : Tb} {F : Fi} {c : Cz} {n : Nms} {N : List Str}
variable {W : Wx} {X : Cx} {a b : E} {ea eb : Expr} {p : Pos} {tg : Expr}
variable {φ : Nm → Addr} {Mo : Addr → Prop} {s s1 : St} {σ : L2.St} {H : Hp} {ds : List D} {vs : List V} {ad : Addr}
/-- what an iterator gives, whatever happens within the frame -/
def Src (c : Cz) (φ : Nm → Addr) (Mo : Addr → Prop) (s : St) (H : Hp) (J : It) (items : List D) : Prop :=
  ∃ G Y, Walk J items.length G Y ∧ ∀ φ' Mo' s' H', Rel c φ' Mo' s' H' → Fr φ Mo s H φ' Mo' s' H' → G H' ∧ ∀ i x H2 d, i < items.length → Y i H' x H2 → items[i]? = some d → Grow Mo' Mo' H' H2 ∧ Rep c φ' (Ms φ' Mo' s') H2 s'.sto.length d x
theorem Grow.refl : Grow Mo Mo H H := ⟨fun _ _ h => h, fun _ h => h, fun _ h => .inl h, fun _ h => .inl h⟩
theorem src_list (hk : ∀ φ' Mo' s' H', Fr φ Mo s H φ' Mo' s' H' → SqL c.K H' ad vs) (r : RepL c φ (Ms φ Mo s) H s.sto.length ds vs) : Src c φ Mo s H (Itl c.K ad) ds := by
  refine ⟨fun H' => SqL c.K H' ad vs, YAt vs, by rw [← r.length]; exact walk_list, fun φ' Mo' s' H' rel f => ⟨hk _ _ _ _ f, fun i x H2 d hi y e => ?_⟩⟩
  obtain ⟨rfl, ex⟩ := y
  obtain ⟨v, e1, e2⟩ := r.get e
  rw [ex] at e1
  cases e1
  exact ⟨Grow.refl, Rep.mv f.mv _ _ e2⟩
theorem src_tup (hk : ∀ φ' Mo' s' H', Fr φ Mo s H φ' Mo' s' H' → SqT c.K H' ad vs) (r : RepL c φ (Ms φ Mo s) H s.sto.length ds vs) : Src c φ Mo s H (Itt c.K ad) ds := by
  refine ⟨fun H' => SqT c.K H' ad vs, YAt vs, by rw [← r.length]; exact walk_tup, fun φ' Mo' s' H' rel f => ⟨hk _ _ _ _ f, fun i x H2 d hi y e => ?_⟩⟩
  obtain ⟨rfl, ex⟩ := y
  obtain ⟨v, e1, e2⟩ := r.get e
  rw [ex] at e1
  cases e1
  exact ⟨Grow.refl, Rep.mv f.mv _ _ e2⟩
theorem src_str {z : Tx} (ok : okT z) : Src c φ Mo s H (Its (tx z)) (z.map fun n => .str [n]) := by
  have e0 : (tx z).cps.size = (z.map fun n => D.str [n]).length := by
    rw [List.length_map]
    show z.toArray.size = z.length
    simp
  refine ⟨fun _ => True, fun i H v H' => H' = H ∧ ∃ c, (tx z).cps[i]? = some c ∧ v = .str ⟨#[c]⟩, by rw [← e0]; exact walk_str, fun φ' Mo' s' H' rel f => ⟨trivial, fun i x H2 d hi y e => ?_⟩⟩
  obtain ⟨rfl, m, e1, rfl⟩ := y
  have e1 : z[i]? = some m := by simpa [tx] using e1
  rw [List.getElem?_map, e1] at e
  cases e
  exact ⟨Grow.refl, rfl, ok.one (List.mem_of_getElem? e1)⟩
theorem src_rng {lo hi : Int} : Src c φ Mo s H (Itr lo (hi - lo).toNat) (rng lo hi) := by
  have e0 : (hi - lo).toNat = (rng lo hi).length := by
    unfold rng
    rw [List.length_map, List.length_range]
  refine ⟨fun _ => True, YFn fun i => .int (lo + i), by rw [← e0]; exact walk_range, fun φ' Mo' s' H' rel f => ⟨trivial, fun i x H2 d hi y e => ?_⟩⟩
  obtain ⟨rfl, rfl⟩ := y
  rw [← e0] at hi
  unfold rng at e
  rw [List.getElem?_map, List.getElem?_range hi] at e
  cases e
  exact ⟨Grow.refl, rfl⟩
theorem enum_get : ∀ (ds : List D) (k i : Nat), (enum k ds)[i]? = ds[i]?.map fun d => .tup [.int ((k + i : Nat) : Int), d]
  | [], k, i => by simp [enum]
  | d :: r, k, 0 => by simp [enum]
  | d :: r, k, i + 1 => by
    show (enum (k + 1) r)[i]? = _
    rw [enum_get r (k + 1) i]
    have : k + 1 + i = k + (i + 1) := by omega
    rw [this]
    simp
theorem enum_len : ∀ (ds : List D) (k : Nat), (enum k ds).length = ds.length
  | [], k => rfl
  | d :: r, k => by
    show (enum (k + 1) r).length + 1 = _
    rw [enum_len r (k + 1)]
    rfl
theorem src_enu (hk : ∀ φ' Mo' s' H', Fr φ Mo s H φ' Mo' s' H' → SqL c.K H' ad vs) (r : RepL c φ (Ms φ Mo s) H s.sto.length ds vs) : Src c φ Mo s H (Ite c.K ad) (enum 0 ds) := by
  have e0 : (enum 0 ds).length = vs.length := by rw [enum_len, r.length]
  refine ⟨fun H' => SqL c.K H' ad vs, YPair (fun i => some (.int (i : Nat))) (fun i => vs[i]?), by rw [e0]; exact walk_enum, fun φ' Mo' s' H' rel f => ⟨hk _ _ _ _ f, fun i x H2 d hi y e => ?_⟩⟩
  obtain ⟨q, x1, y1, rfl, h1, rfl, h2, h3⟩ := y
  cases h2
  rw [enum_get] at e
  cases e2 : ds[i]? with
  | none =>
    rw [e2] at e
    cases e
  | some d0 =>
    rw [e2] at e
    cases e
    obtain ⟨v, e3, e4⟩ := r.get e2
    have h3 : vs[i]? = some y1 := h3
    rw [h3] at e3
    cases e3
    have g := grow_frz (Mo := Mo') (o := .tup [.int (i : Nat), y1]) h1
    refine ⟨g, q, [.int (i : Nat), y1], rfl, .inl ⟨rel.notM h1, upd_same⟩, ?_⟩
    refine ⟨_, _, rfl, ?_, _, _, rfl, Rep.mv (g.fr (φ := φ') (s := s')).mv _ _ (Rep.mv f.mv _ _ e4), rfl⟩
    show V.int _ = V.int _
    simp
/-! ### the source of a walk -/
def OutI' (c : Cz) (W : Wx) (cl : Bool) (σ : L2.St) (φ : Nm → Addr) (Mo : Addr → Prop) (s : St) (H : Hp) (k : Sk) (r : R (List D)) (Q : It → Hp → Prop) : Prop := match r with
  | .ok ds s' => ∃ items s1 ps, srcD k s' ds = some items ∧ hide s' (nms ds) = some (s1, ps) ∧ ∀ J φ' Mo' H', PostE c cl σ φ Mo s H φ' Mo' s' H' → Src c φ' (MoH φ' Mo' ps) s1 H' J items → Q J H'
  | .exc k fs s' => ∀ cls dx φ' Mo' H', PostE c cl σ φ Mo s H φ' Mo' s' H' → ExcR c φ' Mo' s' H' k fs cls dx → W cls dx σ H'
  | .stuck => False
def tI (c : Cz) (W : Wx) (cl : Bool) (k : Sk) (r : St → R (List D)) : TI := fun σ H Q => ∃ φ Mo s, RelE c φ Mo s σ H ∧ OutI' c W cl σ φ Mo s H k (r s) Q
theorem evB_one {s : St} : evB T F (.cons a .nil) s = (evE T F a s).bind fun x s => .ok [x] s := by
  rw [evB]
  cases evE T F a s with
  | ok d s1 =>
    show (if isF d && !(E.nil).calm T then R.stuck else (evB T F .nil s1).bind fun xs s => .ok (d :: xs) s) = .ok [d] s1
    rw [show (E.nil).calm T = true from rfl, Bool.not_true, Bool.and_false, if_neg Bool.false_ne_true, evB]
    rfl
  | exc _ _ _ => rfl
  | stuck => rfl
theorem nms_none {x : D} (h : nmOf x = none) : nms [x] = [] := by
  unfold nms
  rw [List.filterMap_cons, h]
  rfl
theorem nms_some {x : D} {nm : Nm} (h : nmOf x = some nm) : nms [x] = [nm] := by
  unfold nms
  rw [List.filterMap_cons, h]
  rfl
/-- a list that is walked: where it lies, and that it stays -/
theorem walked_lst (r : RelE c φ Mo s σ H) {x : D} {xv : V} {ps : Option (Nm × D)} (v : VRep c φ Mo s H x xv) (e : asLst s x = some ds) (eh : hide s (nms [x]) = some (s1, ps)) :
    ∃ ad vs, xv = .ref ad ∧ SqL c.K H ad vs ∧ (∀ φ' Mo' s' H', Fr φ (MoH φ Mo ps) s1 H φ' Mo' s' H' → SqL c.K H' ad vs) ∧ RepL c φ (Ms φ (MoH φ Mo ps) s1) H s1.sto.length ds vs := by
  have mvh := mv_hide (φ := φ) (Mo := Mo) (H := H) eh
  have hM := ms_hide (φ := φ) (Mo := Mo) eh
  cases hn : nmOf x with
  | some nm =>
    rw [nms_some hn] at eh
    rcases hide_is eh with ⟨e1, _⟩ | ⟨nm', ds', e1, e2, _, e4⟩
    · cases e1
    · cases e1
      subst e4
      have ec : cont s x = own s nm := by
        unfold cont
        rw [hn]
      unfold asLst at e
      rw [ec, e2] at e
      cases e
      obtain ⟨vs, c1, c2⟩ := r.cnt nm _ ⟨e2, by intro z; cases z⟩
      exact ⟨φ nm, vs, vref r.toRel hn v, .inl (.inl c1), fun φ' Mo' s' H' f => .inl (.inl ((f.outer _ (.inr ⟨_, _, rfl, rfl⟩)).2 _ c1)), RepL.mv mvh _ _ c2⟩
  | none =>
    have ec : cont s x = some x := by
      unfold cont
      rw [hn]
    unfold asLst at e
    rw [ec] at e
    cases x with
    | lst ds' =>
      cases e
      obtain ⟨ad, vs, rfl, h1, h2, h3⟩ := v
      exact ⟨ad, vs, rfl, .inl (.inl h2), fun φ' Mo' s' H' f => .inl (.inl (f.imm _ _ h2 fun z => h1 ((hM _).mp z))), RepL.mv mvh _ _ h3⟩
    | olst ds' =>
      cases e
      obtain ⟨ad, rfl, h1, vs, h2, h3⟩ := v
      exact ⟨ad, vs, rfl, .inl (.inl h2), fun φ' Mo' s' H' f => .inl (.inl ((f.outer _ (.inl h1)).2 _ h2)), RepL.mv mvh _ _ h3⟩
    | _ => cases e
theorem pi_src {e : Expr} (hK : X.K = c.K) (ha : PE X e (TE' T F c W a)) : PI X tg e (tI c W (a.calm T) .it (evB T F (.cons a .nil))) := by
  refine ⟨fun pins st σ H Q I hq => ?_⟩
  obtain ⟨φ, Mo, s, rel, h⟩ := hq
  rw [evB_one] at h
  have go : ∀ {te : TI}, PI X tg e te → te σ H Q → wpAny (model X.prog X.w) X.A (eval e X.env) (fun v s1 => wpAny (model X.prog X.w) X.A (pyIter v) (PIE X pins σ tg Q) X.xe s1) X.xe st := fun h1 h2 => h1.run pins st σ H Q I h2
  cases ea : evE T F a s with
  | stuck =>
    rw [ea] at h
    exact h.elim
  | exc k fs s' =>
    rw [ea] at h
    refine go (pi_list ha) ⟨φ, Mo, s, rel, ?_⟩
    rw [ea]
    exact h
  | ok x s' =>
    rw [ea] at h
    obtain ⟨items, s1, ps, e1, e2, h⟩ := h
    have e1 : srcIt s' x = some items := e1
    by_cases hl : (asLst s' x).isSome = true
    · obtain ⟨ds, e3⟩ := Option.isSome_iff_exists.mp hl
      have e4 : items = ds := by
        unfold asLst at e3
        unfold srcIt at e1
        cases q : cont s' x with
        | none =>
          rw [q] at e3
          cases e3
        | some y =>
          rw [q] at e3 e1
          cases y <;> first | (cases e3; done) | (cases e3; cases e1; rfl)
      subst e4
      refine go (pi_list ha) ⟨φ, Mo, s, rel, ?_⟩
      rw [ea]
      intro v φ' Mo' H' P vr fr
      obtain ⟨ad, vs, rfl, k1, k2, k3⟩ := walked_lst P.rel vr e3 e2
      rw [hK]
      exact ⟨ad, rfl, ⟨vs, k1⟩, h _ φ' Mo' H' P (src_list k2 k3)⟩
    · have hn : nmOf x = none := by
        cases hn : nmOf x with
        | none => rfl
        | some nm =>
          rw [nms_some hn] at e2
          rcases hide_is e2 with ⟨e1, _⟩ | ⟨nm', ds', q1, q2, _, q4⟩
          · cases e1
          · cases q1
            exact absurd (by unfold asLst cont; rw [hn]; show ((match own s' nm with | some (.lst ds) => some ds | some (.olst ds) => some ds | _ => none) : Option (List D)).isSome = true; rw [q2]; rfl) hl
      rw [nms_none hn] at e2
      rcases hide_is e2 with ⟨_, rfl, rfl⟩ | ⟨_, _, q, _⟩
      · have ec : cont s1 x = some x := by
          unfold cont
          rw [hn]
        have hl' : asLst s1 x = none := by
          cases q : asLst s1 x with
          | none => rfl
          | some _ =>
            rw [q] at hl
            exact absurd rfl hl
        unfold asLst at hl'
        unfold srcIt at e1
        rw [ec] at e1 hl'
        have MH : MoH φ Mo none = Mo := funext fun a => propext moH_none
        cases x with
        | tup ds =>
          cases e1
          refine go (pi_tup ha) ⟨φ, Mo, s, rel, ?_⟩
          rw [ea]
          intro v φ' Mo' H' P vr fr
          have MH : MoH φ' Mo' none = Mo' := funext fun a => propext moH_none
          obtain ⟨ad, vs, rfl, k1, k2⟩ := vr
          have hk : ∀ φ2 Mo2 s2 H2, Fr φ' (MoH φ' Mo' none) s1 H' φ2 Mo2 s2 H2 → SqT c.K H2 ad vs := fun φ2 Mo2 s2 H2 f => by
            rw [MH] at f
            rcases k1 with ⟨q1, q2⟩ | q
            · exact .inl (.inl (f.imm _ _ q2 q1))
            · exact .inr q
          rw [hK]
          refine ⟨ad, rfl, ⟨vs, k1.imp (fun q => .inl q.2) id⟩, h _ φ' Mo' H' P (src_tup hk ?_)⟩
          rw [MH]
          exact k2
        | str z =>
          cases e1
          refine go (pi_str ha) ⟨φ, Mo, s, rel, ?_⟩
          rw [ea]
          intro v φ' Mo' H' P vr fr
          exact ⟨tx z, vr.1, h _ φ' Mo' H' P (src_str vr.2)⟩
        | scr ns =>
          cases e1
          refine go (pi_list ha) ⟨φ, Mo, s, rel, ?_⟩
          rw [ea]
          intro v φ' Mo' H' P vr fr
          have MH : MoH φ' Mo' none = Mo' := funext fun a => propext moH_none
          obtain ⟨ad, rfl, k2⟩ := vr
          have hk : ∀ φ2 Mo2 s2 H2, Fr φ' (MoH φ' Mo' none) s1 H' φ2 Mo2 s2 H2 → SqL c.K H2 ad (ns.map V.int) := fun φ2 Mo2 s2 H2 f => by
            rw [MH] at f
            rcases k2 with ⟨k1, q | ⟨o, q⟩⟩ | q
            · exact .inl (.inl (f.imm _ _ q k1))
            · exact .inl (.inr ⟨o, f.imm _ _ q k1⟩)
            · exact .inr q
          rw [hK]
          refine ⟨ad, rfl, ⟨_, scr_sq k2⟩, h _ φ' Mo' H' P (src_list hk ?_)⟩
          exact RepL.of_map (f := D.int) (g := V.int) (fun i => rfl) ns
        | lst _ => cases hl'
        | olst _ => cases hl'
        | _ => cases e1
      · cases q
end
end TR
end

section
set_option Elab.async false
set_option linter.all false
set_option maxRecDepth 100000
set_option autoImplicit false
/-! TrTgt: slots stored; targets. -/
namespace TR
open PySem L2
section
variable {c : Cz} {φ : Nm → Addr} {Mo : Addr → Prop} {s s' : St} {σ σ' : L2.St} {H : Hp} {env' : List (Option D)}
theorem act_env {env : List (Option D)} (h : ∀ (i : Nat) d, env[i]? = some (some d) → owned d = true → s.env[i]? = some (some d)) : ∀ i d, Act { s with env := env } (.slot i) d → Act s (.slot i) d := fun i d ha =>
  ⟨own_slot (h i d (slot_env (s := { s with env := env }) ha.1) (own_owned ha.1)) (own_owned ha.1), ha.2⟩
theorem hid_env {env : List (Option D)} (h : ∀ (i : Nat) d, env[i]? = some (some d) → owned d = true → s.env[i]? = some (some d)) : ∀ i, own { s with env := env } (.slot i) = some .hid → own s (.slot i) = some .hid := fun i ha =>
  own_slot (h i .hid (slot_env (s := { s with env := env }) ha) rfl) rfl
/-- slots are stored -/
theorem RelE.envs (r : RelE c φ Mo s σ H) (hl : env'.length = s.env.length) (hs : σ'.length = σ.length)
    (h : ∀ (i : Nat) d, env'[i]? = some (some d) → (s.env[i]? = some (some d) ∧ σ'[i]? = σ[i]?) ∨ (owned d = false ∧ ∃ v, σ'[i]? = some (some v) ∧ Rep c φ (Ms φ Mo s) H s.sto.length d v)) :
    RelE c φ Mo { s with env := env' } σ' H ∧ Fr φ Mo s H φ Mo { s with env := env' } H := by
  have h0 : ∀ (i : Nat) d, env'[i]? = some (some d) → owned d = true → s.env[i]? = some (some d) := fun i d e ho => (h i d e).elim (fun k => k.1) fun k => by
    rw [k.1] at ho
    cases ho
  have ha := act_env (s := s) h0
  have fr : Fr φ Mo s H φ Mo { s with env := env' } H := Fr.env ha (hid_env h0)
  refine ⟨{ r.toRel.env ha with len := by rw [hs, r.len]; exact hl.symm, slots := fun i d e => ?_ }, fr⟩
  rcases h i d e with ⟨e1, e2⟩ | ⟨ho, v, e1, e2⟩
  · obtain ⟨v, e3, e4⟩ := r.slots i d e1
    refine ⟨v, by rw [e2]; exact e3, ?_⟩
    by_cases ho : owned d = true
    · rw [if_pos ho] at e4 ⊢
      exact e4
    · rw [if_neg ho] at e4 ⊢
      exact Rep.mv fr.mv _ _ e4
  · refine ⟨v, e1, ?_⟩
    rw [if_neg (by rw [ho]; exact Bool.false_ne_true)]
    exact Rep.mv fr.mv _ _ e2
theorem rep_nown {M : Addr → Prop} {L : Nat} {d : D} {v : V} (h : Rep c φ M H L d v) : owned d = false := by
  cases d <;> first | rfl | exact h.elim
theorem RelE.set1 (r : RelE c φ Mo s σ H) {d : D} {v : V} (i : Nat) (h : Rep c φ (Ms φ Mo s) H s.sto.length d v) :
    RelE c φ Mo { s with env := s.env.set i (some d) } (σ.set i (some v)) H ∧ Fr φ Mo s H φ Mo { s with env := s.env.set i (some d) } H := by
  refine r.envs (List.length_set ..) (List.length_set ..) fun j x e => ?_
  by_cases hj : i = j
  · subst hj
    have hl : i < s.env.length := by
      have := (List.getElem?_eq_some_iff.mp e).1
      rwa [List.length_set] at this
    rw [List.getElem?_set_self hl] at e
    cases e
    exact .inr ⟨rep_nown h, v, List.getElem?_set_self (by rw [r.len]; exact hl), h⟩
  · rw [List.getElem?_set_ne hj] at e
    exact .inl ⟨e, List.getElem?_set_ne hj⟩
/-- a slot forgotten -/
theorem RelE.clr (r : RelE c φ Mo s σ H) (i : Nat) : RelE c φ Mo { s with env := s.env.set i none } σ H ∧ Fr φ Mo s H φ Mo { s with env := s.env.set i none } H := by
  refine r.envs (List.length_set ..) rfl fun j x e => ?_
  by_cases hj : i = j
  · subst hj
    rw [List.getElem?_set] at e
    split at e
    · split at e <;> cases e
    · exact .inl ⟨e, rfl⟩
  · rw [List.getElem?_set_ne hj] at e
    exact .inl ⟨e, rfl⟩
theorem RelE.clr2 (r : RelE c φ Mo s σ H) (i : Nat) : RelE c φ Mo { s with env := s.env.set i none } (σ.set i none) H ∧ Fr φ Mo s H φ Mo { s with env := s.env.set i none } H := by
  refine r.envs (List.length_set ..) (List.length_set ..) fun j x e => ?_
  by_cases hj : i = j
  · subst hj
    rw [List.getElem?_set] at e
    split at e
    · split at e <;> cases e
    · rename_i h
      exact absurd rfl h
  · rw [List.getElem?_set_ne hj] at e
    exact .inl ⟨e, List.getElem?_set_ne hj⟩
/-! ### targets -/
def gAll : List Nat → TGs
  | [] => gNil
  | i :: is => gCons (gName i) (gAll is)
def setAllV (σ : L2.St) : List Nat → List V → L2.St
  | i :: is, v :: vs => setAllV (σ.set i (some v)) is vs
  | _, _ => σ
def gT (K : PySem.W.Frag) : Tg → TG
  | .one i => gName i
  | .many is => gTup K is.length (gAll is)
theorem gAll_ok : ∀ {is : List Nat} {ds : List D} {vs : List V} {s : St} {σ : L2.St} {Q : L2.St → Hp → Prop}, RelE c φ Mo s σ H → RepL c φ (Ms φ Mo s) H s.sto.length ds vs → ds.length = is.length →
    (∀ σ', RelE c φ Mo { s with env := setAll s.env is ds } σ' H → Fr φ Mo s H φ Mo { s with env := setAll s.env is ds } H → σ' = setAllV σ is vs → Q σ' H) → gAll is vs σ H Q
  | [], ds, vs, s, σ, Q, r, h, hl, q => by
    cases ds with
    | cons _ _ => cases hl
    | nil =>
      refine ⟨h, q σ ?_ ?_ ?_⟩
      · exact r
      · exact Fr.refl
      · rfl
  | i :: is, ds, vs, s, σ, Q, r, h, hl, q => by
    cases ds with
    | nil => cases hl
    | cons d ds =>
      obtain ⟨v, ws, rfl, h1, h2⟩ := h
      obtain ⟨r1, f1⟩ := r.set1 i h1
      refine ⟨v, ws, rfl, ?_⟩
      show gAll is ws (σ.set i (some v)) H Q
      refine gAll_ok r1 (RepL.mv f1.mv _ _ h2) (by simpa using hl) fun σ' r2 f2 e => q σ' r2 (f1.trans f2) e
theorem keep_rep {M : Addr → Prop} {L : Nat} {d : D} {v : V} (h : Rep c φ M H L d v) : keepOk d = true := by
  cases d <;> first | rfl | exact h.elim
/-- the slots of a target -/
def outV (σ : L2.St) (tg : Tg) (x : V) (σ' : L2.St) (H : Hp) (K : PySem.W.Frag) : Prop := match tg with
  | .one i => σ' = σ.set i (some x)
  | .many is => ∃ vs, σ' = setAllV σ is vs
theorem bind_ok {tg : Tg} {d : D} {x : V} {Q : L2.St → Hp → Prop} (r : RelE c φ Mo s σ H) (h : Rep c φ (Ms φ Mo s) H s.sto.length d x) (e : bindT tg d s = some s')
    (q : ∀ σ', RelE c φ Mo s' σ' H → Fr φ Mo s H φ Mo s' H → outV σ tg x σ' H c.K → Q σ' H) : gT c.K tg x σ H Q := by
  cases tg with
  | one i =>
    have e : (if keepOk d then some { s with env := s.env.set i (some d) } else none) = some s' := e
    rw [if_pos (keep_rep h)] at e
    cases e
    obtain ⟨r1, f1⟩ := r.set1 i h
    exact q _ r1 f1 rfl
  | many is =>
    unfold bindT at e
    cases d with
    | tup ds =>
      have e : (if ds.length = is.length then some { s with env := setAll s.env is ds } else none) = some s' := e
      by_cases hl : ds.length = is.length
      · rw [if_pos hl] at e
        cases e
        obtain ⟨a, vs, rfl, h1, h2⟩ := tup_of h
        exact ⟨a, vs, rfl, h1, by rw [h2.length, hl], gAll_ok r h2 hl fun σ' r2 f2 e => q σ' r2 f2 ⟨vs, e⟩⟩
      · rw [if_neg hl] at e
        cases e
    | _ => cases e
theorem setAllV_len : ∀ {is : List Nat} {vs : List V} {σ : L2.St}, (setAllV σ is vs).length = σ.length
  | [], vs, σ => by cases vs <;> rfl
  | i :: is, [], σ => rfl
  | i :: is, v :: vs, σ => by
    show (setAllV (σ.set i (some v)) is vs).length = _
    rw [setAllV_len, List.length_set]
theorem setAllV_ne : ∀ {is : List Nat} {vs : List V} {σ : L2.St} {j : Nat}, j ∉ is → (setAllV σ is vs)[j]? = σ[j]?
  | [], vs, σ, j, _ => by cases vs <;> rfl
  | i :: is, [], σ, j, _ => rfl
  | i :: is, v :: vs, σ, j, h => by
    show (setAllV (σ.set i (some v)) is vs)[j]? = _
    rw [setAllV_ne (fun z => h (List.mem_cons_of_mem _ z)), List.getElem?_set_ne fun z => h (by rw [z]; exact List.mem_cons_self)]
theorem outV_len {tg : Tg} {x : V} {K : PySem.W.Frag} (h : outV σ tg x σ' H K) : σ'.length = σ.length := by
  cases tg with
  | one i =>
    rw [show σ' = _ from h]
    exact List.length_set ..
  | many is =>
    obtain ⟨vs, rfl⟩ := h
    exact setAllV_len
theorem outV_ne {tg : Tg} {x : V} {K : PySem.W.Frag} (h : outV σ tg x σ' H K) {j : Nat} (hj : j ∉ tgs tg) : σ'[j]? = σ[j]? := by
  cases tg with
  | one i =>
    rw [show σ' = _ from h]
    exact List.getElem?_set_ne fun z => hj (by rw [z]; exact List.mem_singleton.mpr rfl)
  | many is =>
    obtain ⟨vs, rfl⟩ := h
    exact setAllV_ne hj
/-- forgetting makes two slot lists alike that differ there alone -/
theorem wipe_get {vs : List Nat} {j : Nat} : ∀ {σ : L2.St}, (L2.wipe σ vs)[j]? = if j ∈ vs then (σ[j]?).map (fun _ => none) else σ[j]? := by
  induction vs with
  | nil =>
    intro σ
    simp [L2.wipe]
  | cons v vs ih =>
    intro σ
    show ((L2.wipe σ vs).set v none)[j]? = _
    by_cases hj : v = j
    · subst hj
      rw [List.getElem?_set]
      rw [if_pos rfl, if_pos List.mem_cons_self, wipe_length]
      by_cases hl : v < σ.length
      · rw [if_pos hl, List.getElem?_eq_getElem hl]
        rfl
      · rw [if_neg hl, List.getElem?_eq_none (Nat.le_of_not_lt hl)]
        rfl
    · rw [List.getElem?_set_ne hj, ih]
      by_cases hm : j ∈ vs
      · rw [if_pos hm, if_pos (List.mem_cons_of_mem _ hm)]
      · rw [if_neg hm, if_neg fun z => (List.mem_cons.mp z).elim (fun e => hj e.symm) hm]
theorem wipe_eq {vs : List Nat} (hl : σ'.length = σ.length) (h : ∀ j, j ∉ vs → σ'[j]? = σ[j]?) : L2.wipe σ' vs = L2.wipe σ vs := by
  apply List.ext_getElem?
  intro j
  rw [wipe_get, wipe_get]
  by_cases hm : j ∈ vs
  · rw [if_pos hm, if_pos hm]
    by_cases hj : j < σ.length
    · rw [List.getElem?_eq_getElem hj, List.getElem?_eq_getElem (by rw [hl]; exact hj)]
      rfl
    · rw [List.getElem?_eq_none (Nat.le_of_not_lt hj), List.getElem?_eq_none (by rw [hl]; exact Nat.le_of_not_lt hj)]
  · rw [if_neg hm, if_neg hm, h j hm]
end
section
variable {c : Cz} {N : List Str} {X : Cx} {sc : Scope}
theorem pg_nm {i : Nat} {e : Expr} {own : Bool} (hN : X.N = N) (nd : N.Nodup) (hs : X.env.scope = sc) (hfn : own = true → ∀ x, sc.names.lookup x = some .cell → X.fn x = true) (h : IsNm N own sc i e) : PG X e (gName i) := by
  obtain ⟨x, p, rfl, h1, h2⟩ := h
  subst hN hs
  rcases h2 with h2 | ⟨h2, h3⟩
  · exact pg_name nd h1 (.inl h2) (.inr h2)
  · exact pg_name nd h1 (.inr h3) (.inl (hfn h2 x h3))
theorem nms_each {own : Bool} : ∀ {is : List Nat} {es : List Expr} {env : Env}, IsNms N own sc is es → (assignEach es env).length = is.length ∧ (assignEach es env).findIdx? (·.1) = none
  | [], es, env, h => by
    rw [show es = [] from h]
    exact ⟨rfl, rfl⟩
  | i :: is, es, env, h => by
    obtain ⟨e, t, rfl, ⟨x, p, rfl, h1, h2⟩, h3⟩ := h
    obtain ⟨k1, k2⟩ := nms_each (env := env) h3
    refine ⟨by show (assignEach t env).length + 1 = _; rw [k1]; rfl, ?_⟩
    show ((false, assign (.Name x p) env) :: assignEach t env).findIdx? (·.1) = none
    rw [List.findIdx?_cons, k2]
    rfl
theorem pgs_nms {own : Bool} (hN : X.N = N) (nd : N.Nodup) (hs : X.env.scope = sc) (hfn : own = true → ∀ x, sc.names.lookup x = some .cell → X.fn x = true) : ∀ {is : List Nat} {es : List Expr}, IsNms N own sc is es → PGs X es (gAll is)
  | [], es, h => by
    rw [show es = [] from h]
    exact pgs_nil
  | i :: is, es, h => by
    obtain ⟨e, t, rfl, h1, h3⟩ := h
    refine pgs_cons (pg_nm hN nd hs hfn h1) (pgs_nms hN nd hs hfn h3) ?_
    obtain ⟨x, p, rfl, _, _⟩ := h1
    rfl
theorem pg_T {tg : Tg} {e : Expr} {own : Bool} (hc : X.calm = true) (hK : X.K = c.K) (hN : X.N = N) (nd : N.Nodup) (hs : X.env.scope = sc) (hfn : own = true → ∀ x, sc.names.lookup x = some .cell → X.fn x = true) (h : IsTg N own sc tg e) : PG X e (gT c.K tg) := by
  cases tg with
  | one i => exact pg_nm hN nd hs hfn h
  | many is =>
    obtain ⟨es, k, p, rfl, h⟩ := h
    have q := nms_each (env := X.env) h
    rw [← hK]
    exact pg_tup hc (pgs_nms hN nd hs hfn h) q.1 q.2
end
end TR
end

section
set_option Elab.async false
set_option linter.all false
set_option maxRecDepth 100000
set_option autoImplicit false
/-! TrLc: sources by their forms; list comprehensions. -/
namespace TR
open PySem L2
section
variable {T : Tb} {F : Fi} {c : Cz} {n : Nms} {N : List Str}
variable {W : Wx} {X : Cx} {a b : E} {ea eb : Expr} {p q : Pos} {tg : Expr} {k : Sk}
theorem tI_B {σ : L2.St} {H : Hp} {Q : It → Hp → Prop} {G : List V → Hp → Prop} (h : tI c W (a.calm T) k (evB T F a) σ H Q)
    (hq : ∀ ds s' items s1 ps vs φ' Mo' H', srcD k s' ds = some items → hide s' (nms ds) = some (s1, ps) → RelE c φ' Mo' s' σ H' → VRepL c φ' Mo' s' H' ds vs → (∀ J, Src c φ' (MoH φ' Mo' ps) s1 H' J items → Q J H') → G vs H') : TB' T F c W a σ H G := by
  obtain ⟨φ, Mo, s, rel, h⟩ := h
  refine ⟨φ, Mo, s, rel, ?_⟩
  cases e : evB T F a s with
  | stuck =>
    rw [e] at h
    exact h.elim
  | exc k fs s' =>
    rw [e] at h
    exact h
  | ok ds s' =>
    rw [e] at h
    obtain ⟨items, s1, ps, e1, e2, h⟩ := h
    exact fun vs φ' Mo' H' P v f => hq ds s' items s1 ps vs φ' Mo' H' e1 e2 P.rel v fun J src => h J φ' Mo' H' P src
theorem srcD_rng1 {s : St} {ds items : List D} (e : srcD .rng1 s ds = some items) : ∃ n : Int, ds = [.int n] ∧ (-4611686018427387904 ≤ n ∧ n < 4611686018427387904) ∧ items = rng 0 n := by
  unfold srcD at e
  split at e <;> try contradiction
  split at e
  · rename_i hb
    cases e
    exact ⟨_, rfl, hb, rfl⟩
  · cases e
theorem srcD_rng2 {s : St} {ds items : List D} (e : srcD .rng2 s ds = some items) : ∃ m n : Int, ds = [.int m, .int n] ∧ ((-4611686018427387904 ≤ m ∧ m < 4611686018427387904) ∧ -4611686018427387904 ≤ n ∧ n < 4611686018427387904) ∧ items = rng m n := by
  unfold srcD at e
  split at e <;> try contradiction
  split at e
  · rename_i hb
    cases e
    exact ⟨_, _, rfl, hb, rfl⟩
  · cases e
theorem srcD_enu {s : St} {ds items : List D} (e : srcD .enu s ds = some items) : ∃ x zs, ds = [x] ∧ asLst s x = some zs ∧ items = enum 0 zs := by
  unfold srcD at e
  split at e <;> try contradiction
  rw [Option.map_eq_some_iff] at e
  obtain ⟨zs, e3, rfl⟩ := e
  exact ⟨_, zs, rfl, e3, rfl⟩
theorem PI.mono {t t' : TI} {e : Expr} (h : PI X tg e t) (m : ∀ σ H Q, t' σ H Q → t σ H Q) : PI X tg e t' := ⟨fun pins s σ H Q I q => h.run pins s σ H Q I (m σ H Q q)⟩
theorem pi_rng1 (hg : Gl X "range") (hm : X.mg "range" = none) (hp : plainX ea = true) (ha : PA X [ea] (TB' T F c W a)) : PI X tg (.Call (.Name "range" p) [ea] [] q) (tI c W (a.calm T) .rng1 (evB T F a)) := by
  refine PI.mono (pi_range1 hg hm ha (star_cons hp)) fun σ H Q h => ?_
  refine tI_B h fun ds s' items s1 ps vs φ' Mo' H' e1 e2 rel v hq => ?_
  obtain ⟨m, rfl, hb, rfl⟩ := srcD_rng1 e1
  obtain ⟨w, rfl, hw⟩ := vone v
  refine ⟨m, by rw [show w = _ from hw], by omega, by omega, hq _ ?_⟩
  have := src_rng (c := c) (φ := φ') (Mo := MoH φ' Mo' ps) (s := s1) (H := H') (lo := 0) (hi := m)
  rwa [Int.sub_zero] at this
theorem pi_rng2 (hg : Gl X "range") (hm : X.mg "range" = none) (hp : plainX ea = true) (hp2 : plainX eb = true) (ha : PA X [ea, eb] (TB' T F c W a)) : PI X tg (.Call (.Name "range" p) [ea, eb] [] q) (tI c W (a.calm T) .rng2 (evB T F a)) := by
  refine PI.mono (pi_range2 hg hm ha (by rw [star_cons hp, star_cons hp2]; rfl) (by rw [star_cons hp2]; rfl)) fun σ H Q h => ?_
  refine tI_B h fun ds s' items s1 ps vs φ' Mo' H' e1 e2 rel v hq => ?_
  obtain ⟨i, j, rfl, hb, rfl⟩ := srcD_rng2 e1
  obtain ⟨w, w2, rfl, hw, hw2⟩ := vtwo v
  exact ⟨i, j, by rw [show w = _ from hw, show w2 = _ from hw2], ⟨by omega, by omega, by omega, by omega⟩, hq _ src_rng⟩
theorem pi_enu {elts : List Expr} {kk : Nat} {tpos : Pos} (hK : X.K = c.K) (hg : Gl X "enumerate") (hm : X.mg "enumerate" = none) (hp : plainX ea = true) (ha : PA X [ea] (TB' T F c W a)) : PI X (.Tuple elts kk tpos) (.Call (.Name "enumerate" p) [ea] [] q) (tI c W (a.calm T) .enu (evB T F a)) := by
  refine PI.mono (pi_enum hg hm ha (star_cons hp)) fun σ H Q h => ?_
  refine tI_B h fun ds s' items s1 ps vs φ' Mo' H' e1 e2 rel v hq => ?_
  obtain ⟨x, ds, rfl, e3, rfl⟩ := srcD_enu e1
  obtain ⟨w, rfl, hw⟩ := vone v
  obtain ⟨ad, vs, rfl, k1, k2, k3⟩ := walked_lst rel hw e3 e2
  rw [hK]
  exact ⟨ad, vs, rfl, k1, hq _ (src_enu k2 k3)⟩
end
section
variable {c : Cz} {φ φ' : Nm → Addr} {Mo Mo' : Addr → Prop} {s s' : St} {σ : L2.St} {H H' : Hp} {D : Addr} {o : HO}
/-- a temporary thing of the loop's own is changed -/
theorem RelE.updT (r : RelE c φ Mo s σ H) (hD : Mo D) : RelE c φ Mo s σ (upd H D o) ∧ Mv φ φ (Ms φ Mo s) (Ms φ Mo s) H (upd H D o) s.sto.length s.sto.length := by
  have mv : Mv φ φ (Ms φ Mo s) (Ms φ Mo s) H (upd H D o) s.sto.length s.sto.length := mvput (.inl hD)
  refine ⟨⟨⟨r.inj, r.out, fun nm d h => ContAt.mv mv (fun u e => ?_) (fun _ _ _ _ _ _ _ _ _ => rfl) (r.cnt nm d h), fun a ha => ?_⟩, r.len, fun i d h => ?_⟩, mv⟩
  · rw [upd_ne fun z => r.out nm d h (by rw [z]; exact hD)]
    exact e
  · by_cases q : a = D
    · rw [q, upd_same]
      exact fun z => by cases z
    · rw [upd_ne q]
      exact r.dom a ha
  · obtain ⟨v, e, k⟩ := r.slots i d h
    refine ⟨v, e, ?_⟩
    by_cases ho : owned d = true
    · rw [if_pos ho] at k ⊢
      exact k
    · rw [if_neg ho] at k ⊢
      exact Rep.mv mv _ _ k
theorem Fr.updT (f : Fr φ Mo s H φ' Mo' s' H') (h0 : H D = none) (r : ∀ a, Mo a → H a ≠ none) : Fr φ Mo s H φ' Mo' s' (upd H' D o) :=
  ⟨fun a u e hn => by rw [upd_ne fun z => by rw [z, h0] at e; cases e]; exact f.imm a u e hn, f.new, fun a ha => ⟨(f.outer a ha).1, fun u e => by rw [upd_ne fun z => by rw [z, h0] at e; cases e]; exact (f.outer a ha).2 u e⟩, f.fresh, f.cell, f.len,
    fun a ha => by
      by_cases q : a = D
      · rw [q, upd_same]
        exact fun z => by cases z
      · rw [upd_ne q]
        exact f.dom a ha, f.hid, f.slot, f.s0⟩
end
/-! ### slots forgotten and brought back -/
theorem wipeD_get {env : List (Option D)} {vs : List Nat} {j : Nat} : (wipe env vs)[j]? = if j ∈ vs then (env[j]?).map (fun _ => none) else env[j]? := by
  induction vs with
  | nil => simp [wipe]
  | cons v vs ih =>
    show ((wipe env vs).set v none)[j]? = _
    have hlen : (wipe env vs).length = env.length := wipeD_len
    by_cases hj : v = j
    · subst hj
      rw [List.getElem?_set]
      rw [if_pos rfl, if_pos List.mem_cons_self, hlen]
      by_cases hl : v < env.length
      · rw [if_pos hl, List.getElem?_eq_getElem hl]
        rfl
      · rw [if_neg hl, List.getElem?_eq_none (Nat.le_of_not_lt hl)]
        rfl
    · rw [List.getElem?_set_ne hj, ih]
      by_cases hm : j ∈ vs
      · rw [if_pos hm, if_pos (List.mem_cons_of_mem _ hm)]
      · rw [if_neg hm, if_neg fun z => (List.mem_cons.mp z).elim (fun e => hj e.symm) hm]
where
  wipeD_len {env : List (Option D)} : ∀ {vs : List Nat}, (wipe env vs).length = env.length
    | [] => rfl
    | v :: vs => by
      show ((wipe env vs).set v none).length = _
      rw [List.length_set, wipeD_len]
theorem wipeD_some {env : List (Option D)} {vs : List Nat} {j : Nat} {d : D} (h : (wipe env vs)[j]? = some (some d)) : env[j]? = some (some d) ∧ j ∉ vs := by
  rw [wipeD_get] at h
  by_cases hm : j ∈ vs
  · rw [if_pos hm] at h
    cases e : env[j]? with
    | none =>
      rw [e] at h
      cases h
    | some _ =>
      rw [e] at h
      cases h
  · rw [if_neg hm] at h
    exact ⟨h, hm⟩
theorem restore_len {env0 env : List (Option D)} : ∀ {vs : List Nat}, (restore env0 env vs).length = env.length
  | [] => rfl
  | v :: vs => by
    show ((restore env0 env vs).set v _).length = _
    rw [List.length_set, restore_len]
theorem restore_some {env0 env : List (Option D)} {j : Nat} {d : D} : ∀ {vs : List Nat}, (restore env0 env vs)[j]? = some (some d) → (j ∈ vs ∧ env0[j]? = some (some d)) ∨ (j ∉ vs ∧ env[j]? = some (some d))
  | [], h => .inr ⟨by simp, h⟩
  | v :: vs, h => by
    have h : ((restore env0 env vs).set v ((env0[v]?).join))[j]? = some (some d) := h
    by_cases hj : v = j
    · subst hj
      rw [List.getElem?_set, if_pos rfl] at h
      split at h
      · refine .inl ⟨List.mem_cons_self, ?_⟩
        cases e : env0[v]? with
        | none =>
          rw [e] at h
          cases h
        | some x =>
          rw [e] at h
          cases h
          rfl
      · cases h
    · rw [List.getElem?_set_ne hj] at h
      rcases restore_some h with ⟨h1, h2⟩ | ⟨h1, h2⟩
      · exact .inl ⟨List.mem_cons_of_mem _ h1, h2⟩
      · exact .inr ⟨fun z => (List.mem_cons.mp z).elim (fun e => hj e.symm) h1, h2⟩
theorem noOwn_at {env : List (Option D)} {vs : List Nat} (h : noOwn env vs = true) {j : Nat} {d : D} (hj : j ∈ vs) (e : env[j]? = some (some d)) : owned d = false := by
  unfold noOwn at h
  have := (List.all_eq_true.mp h) j hj
  rw [e] at this
  simpa using this
section
variable {T : Tb} {F : Fi} {c : Cz} {n : Nms} {N : List Str}
variable {W : Wx} {X : Cx} {a elt cond : E} {k : Sk} {tg : Tg} {ow : List Nat}
abbrev W0 : Wx := fun _ _ _ _ => False
def TC' (T : Tb) (F : Fi) (c : Cz) (W : Wx) (cond : E) : TT := match cond with
  | .nil => tYes
  | cond => TT' T F c W cond
theorem condB_nil {k : St → R D} {s : St} : condB .nil k s = .ok true s := rfl
theorem condB_ne {cond : E} (h : cond ≠ .nil) {k : St → R D} {s : St} : condB cond k s = asB (k s) := by
  cases cond <;> first | exact absurd rfl h | rfl
theorem TC'_ne (h : cond ≠ .nil) : TC' T F c W cond = TT' T F c W cond := by
  cases cond <;> first | exact absurd rfl h | rfl
theorem RelE.wiped {φ : Nm → Addr} {Mo : Addr → Prop} {s : St} {σ σ2 : L2.St} {H : Hp} (r : RelE c φ Mo s σ2 H) (h : L2.wipe σ2 ow = L2.wipe σ ow) :
    RelE c φ Mo { s with env := wipe s.env ow } (L2.wipe σ ow) H ∧ Fr φ Mo s H φ Mo { s with env := wipe s.env ow } H := by
  rw [← h]
  refine r.envs wipeD_get.wipeD_len (wipe_length _ _) fun i d e => ?_
  obtain ⟨e1, e2⟩ := wipeD_some e
  exact .inl ⟨e1, by rw [wipe_get, if_neg e2]⟩
/-- what a turn leaves -/
structure Turn' (c : Cz) (cl : Bool) (σw : L2.St) (φ1 : Nm → Addr) (Mo1 : Addr → Prop) (s1 : St) (H1 : Hp) (D : Addr) (ow : List Nat) (φi : Nm → Addr) (Moi : Addr → Prop) (si : St) (H : Hp) (acc : List TR.D) (vs : List V) : Prop where
  rel : RelE c φi Moi { si with env := wipe si.env ow } σw H
  fr : Fr φ1 Mo1 s1 H1 φi Moi { si with env := wipe si.env ow } H
  mo : Moi D
  at_ : H D = some (.lst vs)
  rep : RepL c φi (Ms φi Moi { si with env := wipe si.env ow }) H si.sto.length acc vs
  le : vs.length ≤ lim
  slots : ∀ i, φi (.slot i) = φ1 (.slot i)
  fld : cl = true → ∀ n f, φi (.fld n f) = φ1 (.fld n f)
theorem lc_to {σ : L2.St} {H0 : Hp} {Q : VK} (htg : ∀ i ∈ tgs tg, i ∈ ow) (h : TE' T F c W (.lc elt tg ow k a cond) σ H0 Q) : tLc (tI c W (a.calm T) k (evB T F a)) (gT c.K tg) (TC' T F c W0 cond) (TE' T F c W0 elt) ow σ H0 Q := by
  obtain ⟨φ, Mo, s, rel, h⟩ := h
  refine ⟨φ, Mo, s, rel, ?_⟩
  rw [evE] at h
  have hc : (E.lc elt tg ow k a cond).calm T = true → elt.calm T = true ∧ a.calm T = true ∧ cond.calm T = true := fun e => ⟨(and_split (and_split e).1).1, (and_split (and_split e).1).2, (and_split e).2⟩
  generalize hcl : (E.lc elt tg ow k a cond).calm T = cl at h hc
  cases e : evB T F a s with
  | stuck =>
    rw [e] at h
    exact h.elim
  | exc k fs s' =>
    rw [e] at h
    exact fun cls dx φ' Mo' H' P x => h cls dx φ' Mo' H' (P.weak fun e => (hc e).2.1) x
  | ok ds s' =>
    rw [e] at h
    have h : OutE c W cl σ φ Mo s H0 (match srcD k s' ds with
      | none => .stuck
      | some items => (match hide s' (nms ds) with
        | none => .stuck
        | some (s1, ps) => if noOwn s1.env ow then (match lcL (fun d s => bindT tg d { s with env := wipe s.env ow }) (condB cond (evE T F cond)) (evE T F elt) items [] { s1 with env := wipe s1.env ow } with
          | .ok acc s2 => (match unhide { s2 with env := restore s1.env s2.env ow } ps with
            | some s3 => .ok (.olst acc) s3
            | none => .stuck)
          | _ => .stuck) else .stuck)) Q := h
    cases e1 : srcD k s' ds with
    | none =>
      rw [e1] at h
      exact h.elim
    | some items =>
    rw [e1] at h
    cases e2 : hide s' (nms ds) with
    | none =>
      simp only [e2] at h
      exact h.elim
    | some sp =>
    obtain ⟨s1, ps⟩ := sp
    simp only [e2] at h
    cases e3 : noOwn s1.env ow with
    | false =>
      rw [e3] at h
      exact h.elim
    | true =>
    rw [e3, if_pos rfl] at h
    cases e4 : lcL (fun d s => bindT tg d { s with env := wipe s.env ow }) (condB cond (evE T F cond)) (evE T F elt) items [] { s1 with env := wipe s1.env ow } with
    | stuck =>
      rw [e4] at h
      exact h.elim
    | exc k fs s' =>
      rw [e4] at h
      exact h.elim
    | ok acc s2 =>
    rw [e4] at h
    cases e5 : unhide { s2 with env := restore s1.env s2.env ow } ps with
    | none =>
      simp only [e5] at h
      exact h.elim
    | some s3 =>
    simp only [e5] at h
    refine ⟨items, s1, ps, e1, e2, fun J φ1 Mo1 H1 P1 src D hD => ?_⟩
    obtain ⟨G, Y, w, prop⟩ := src
    have r1h := hide_ok P1.rel e2
    have hnD : ¬ Ms φ1 (MoH φ1 Mo1 ps) s1 D := r1h.toRel.notM hD
    obtain ⟨r1w, f1w⟩ := r1h.wiped (ow := ow) rfl
    obtain ⟨r1w2, f1w2⟩ := r1w.wiped (σ := σ) (ow := ow) (by
      apply wipe_eq (wipe_length _ _)
      intro j hj
      rw [wipe_get, if_neg hj])
    have g0 := grow_tmp (Mo := MoH φ1 Mo1 ps) (o := .lst []) hD
    refine lc_it w (fun i H => ∃ φi Moi si acc0 vs, Turn' c cl (L2.wipe σ ow) φ1 (MoH φ1 Mo1 ps) s1 H1 D ow φi Moi si H acc0 vs ∧
      lcL (fun d s => bindT tg d { s with env := wipe s.env ow }) (condB cond (evE T F cond)) (evE T F elt) (items.drop i) acc0 si = .ok acc s2) ?_ ?_ ?_ ?_
    · refine ⟨φ1, _, { s1 with env := wipe s1.env ow }, [], [], ⟨r1w2.grow g0, ((f1w.trans f1w2).trans g0.fr), .inr rfl, upd_same, rfl, Nat.zero_le _, fun _ => rfl, fun _ _ _ => rfl⟩, ?_⟩
      rw [List.drop_zero]
      exact e4
    · rintro i H hi ⟨φi, Moi, si, acc0, vs, t, _⟩
      exact (prop _ _ _ _ t.rel.toRel t.fr).1
    · rintro i x H H' hi ⟨φi, Moi, si, acc0, vs, t, el⟩ y
      have hit : items.drop i = items[i] :: items.drop (i + 1) := List.drop_eq_getElem_cons hi
      rw [hit] at el
      obtain ⟨g1, rx⟩ := (prop _ _ _ _ t.rel.toRel t.fr).2 i x H' items[i] hi y (List.getElem?_eq_getElem hi)
      have el : (match bindT tg items[i] { si with env := wipe si.env ow } with
        | none => .stuck
        | some s => (match condB cond (evE T F cond) s with
          | .ok true s => (match evE T F elt s with
            | .ok x s => (match esc s x with
              | .ok x s => if acc0.length < lim then lcL (fun d s => bindT tg d { s with env := wipe s.env ow }) (condB cond (evE T F cond)) (evE T F elt) (items.drop (i + 1)) (acc0 ++ [x]) s else .stuck
              | _ => .stuck)
            | _ => .stuck)
          | .ok false s => lcL (fun d s => bindT tg d { s with env := wipe s.env ow }) (condB cond (evE T F cond)) (evE T F elt) (items.drop (i + 1)) acc0 s
          | _ => .stuck) : R (List TR.D)) = .ok acc s2 := el
      cases b1 : bindT tg items[i] { si with env := wipe si.env ow } with
      | none =>
        rw [b1] at el
        cases el
      | some sb =>
      rw [b1] at el
      dsimp only at el
      have rg := t.rel.grow g1
      refine bind_ok rg rx b1 fun σ2 r2 f2 ov => ⟨?_, ?_⟩
      · have hw : L2.wipe (L2.wipe σ ow) ow = L2.wipe σ ow := by
          apply wipe_eq (wipe_length _ _)
          intro j hj
          rw [wipe_get, if_neg hj]
        rw [← hw]
        exact wipe_eq (outV_len ov) fun j hj => outV_ne ov fun z => hj (htg j z)
      have hw2 : L2.wipe σ2 ow = L2.wipe σ ow := by
        have hw : L2.wipe (L2.wipe σ ow) ow = L2.wipe σ ow := by
          apply wipe_eq (wipe_length _ _)
          intro j hj
          rw [wipe_get, if_neg hj]
        rw [← hw]
        exact wipe_eq (outV_len ov) fun j hj => outV_ne ov fun z => hj (htg j z)
      have fB : Fr φ1 (MoH φ1 Mo1 ps) s1 H1 φi Moi sb H' := (t.fr.trans g1.fr).trans f2
      have mv1 : Mv φi φi (Ms φi Moi { si with env := wipe si.env ow }) (Ms φi Moi sb) H H' si.sto.length sb.sto.length := ((g1.fr (φ := φi) (s := { si with env := wipe si.env ow })).trans f2).mv
      have aD : H' D = some (.lst vs) := g1.keep _ _ t.at_
      have rp : RepL c φi (Ms φi Moi sb) H' sb.sto.length acc0 vs := RepL.mv mv1 _ _ t.rep
      -- what a turn leaves when all is done
      have fin : ∀ {cl2 : Bool} {φ3 : Nm → Addr} {Mo3 : Addr → Prop} {s3 : St} {H3 : Hp}, (cl = true → cl2 = true) → PostE c cl2 σ2 φi Moi sb H' φ3 Mo3 s3 H3 → Turn' c cl (L2.wipe σ ow) φ1 (MoH φ1 Mo1 ps) s1 H1 D ow φ3 Mo3 s3 H3 acc0 vs := fun {cl2 φ3 Mo3 s3 H3} hc2 P3 => by
        obtain ⟨r4, f4⟩ := P3.rel.wiped hw2
        exact ⟨r4, (fB.trans P3.fr).trans f4, (P3.fr.outer _ t.mo).1, (P3.fr.outer _ t.mo).2 _ aD, RepL.mv (P3.fr.trans f4).mv _ _ rp, t.le, fun i => (P3.slots i).trans (t.slots i), fun e n f => (P3.fld (hc2 e) n f).trans (t.fld e n f)⟩
      -- behind the test
      have behind : ∀ {b : Bool} {cl2 : Bool} {φ3 : Nm → Addr} {Mo3 : Addr → Prop} {sc3 : St} {H3 : Hp}, (cl = true → cl2 = true) → condB cond (evE T F cond) sb = .ok b sc3 → PostE c cl2 σ2 φi Moi sb H' φ3 Mo3 sc3 H3 →
          if b = true then TE' T F c W0 elt σ2 H3 (fun y H4 => ∃ ac, H4 D = some (.lst ac) ∧ ac.length < sizeLine ∧ ∃ φi Moi si acc0 vs, Turn' c cl (L2.wipe σ ow) φ1 (MoH φ1 Mo1 ps) s1 H1 D ow φi Moi si (upd H4 D (.lst (ac ++ [y]))) acc0 vs ∧
            lcL (fun d s => bindT tg d { s with env := wipe s.env ow }) (condB cond (evE T F cond)) (evE T F elt) (items.drop (i + 1)) acc0 si = .ok acc s2)
          else ∃ φi Moi si acc0 vs, Turn' c cl (L2.wipe σ ow) φ1 (MoH φ1 Mo1 ps) s1 H1 D ow φi Moi si H3 acc0 vs ∧ lcL (fun d s => bindT tg d { s with env := wipe s.env ow }) (condB cond (evE T F cond)) (evE T F elt) (items.drop (i + 1)) acc0 si = .ok acc s2 := by
        intro b cl2 φ3 Mo3 sc3 H3 hc2 eb P3
        simp only [eb] at el
        cases b with
        | false => exact ⟨φ3, Mo3, sc3, acc0, vs, fin hc2 P3, el⟩
        | true =>
          refine ⟨φ3, Mo3, sc3, P3.rel, ?_⟩
          have el : (match evE T F elt sc3 with
            | .ok x s => (match esc s x with
              | .ok x s => if acc0.length < lim then lcL (fun d s => bindT tg d { s with env := wipe s.env ow }) (condB cond (evE T F cond)) (evE T F elt) (items.drop (i + 1)) (acc0 ++ [x]) s else .stuck
              | _ => .stuck)
            | _ => .stuck : R (List TR.D)) = .ok acc s2 := el
          cases ee : evE T F elt sc3 with
          | stuck =>
            rw [ee] at el
            cases el
          | exc k fs s =>
            rw [ee] at el
            cases el
          | ok x' s4 =>
            rw [ee] at el
            have el : (match esc s4 x' with
              | .ok x s => if acc0.length < lim then lcL (fun d s => bindT tg d { s with env := wipe s.env ow }) (condB cond (evE T F cond)) (evE T F elt) (items.drop (i + 1)) (acc0 ++ [x]) s else .stuck
              | _ => .stuck : R (List TR.D)) = .ok acc s2 := el
            cases es : esc s4 x' with
            | stuck =>
              rw [es] at el
              cases el
            | exc k fs s =>
              rw [es] at el
              cases el
            | ok x2 s5 =>
            rw [es] at el
            have el : (if acc0.length < lim then lcL (fun d s => bindT tg d { s with env := wipe s.env ow }) (condB cond (evE T F cond)) (evE T F elt) (items.drop (i + 1)) (acc0 ++ [x2]) s5 else .stuck) = .ok acc s2 := el
            by_cases hl : acc0.length < lim
            · rw [if_pos hl] at el
              intro y φ4 Mo4 H4 P4 v4 f4
              obtain ⟨Mo5, P5, r5, ho, _, _⟩ := esc_ok P4 P3.rel.dom v4 f4 es
              have t5 := fin (cl2 := cl) id (P3.trans P5 fun e => ⟨hc2 e, (hc e).1⟩)
              have hvl : vs.length < lim := by
                rw [rp.length]
                exact hl
              obtain ⟨r6, m6⟩ := t5.rel.updT (o := .lst (vs ++ [y])) t5.mo
              obtain ⟨_, fw⟩ := P5.rel.wiped hw2
              refine ⟨vs, t5.at_, lim_lt hvl, φ4, Mo5, s5, acc0 ++ [x2], vs ++ [y], ⟨r6, t5.fr.updT hD fun a ha => r1h.dom a ha, t5.mo, upd_same, ?_, ?_, t5.slots, t5.fld⟩, el⟩
              · exact RepL.mv m6 _ _ (RepL.app t5.rep (RepL.one (Rep.mv fw.mv _ _ r5)))
              · rw [List.length_append]
                exact hvl
            · rw [if_neg hl] at el
              cases el
      by_cases hn : cond = .nil
      · subst hn
        have hT : TC' T F c W0 .nil = tYes := rfl
        rw [hT]
        exact behind (cl2 := cl) id condB_nil (PostE.refl r2)
      · rw [TC'_ne hn]
        refine ⟨φi, Moi, sb, r2, ?_⟩
        show OutT c W0 (cond.calm T) σ2 φi Moi sb H' (asB (evE T F cond sb)) _
        cases eb : asB (evE T F cond sb) with
        | stuck =>
          rw [condB_ne hn, eb] at el
          cases el
        | exc k fs s =>
          rw [condB_ne hn, eb] at el
          cases el
        | ok b sc3 => exact fun φ3 Mo3 H3 P3 => behind (fun e => (hc e).2.2) (by rw [condB_ne hn]; exact eb) P3
    · rintro H ⟨φi, Moi, si, acc0, vs, t, el⟩
      rw [List.drop_length] at el
      have el : (R.ok acc0 si : R (List TR.D)) = .ok acc s2 := el
      cases el
      -- the slots brought back
      have rr : RelE c φi Moi { s2 with env := restore s1.env s2.env ow } σ H ∧ Fr φi Moi { s2 with env := wipe s2.env ow } H φi Moi { s2 with env := restore s1.env s2.env ow } H := by
        refine t.rel.envs (env' := restore s1.env s2.env ow) (σ' := σ) (by rw [restore_len]; exact wipeD_get.wipeD_len.symm) (by rw [wipe_length]) fun j d ej => ?_
        rcases restore_some ej with ⟨h1, h2⟩ | ⟨h1, h2⟩
        · have ho := noOwn_at e3 h1 h2
          obtain ⟨v, q1, q2⟩ := r1h.slots j d h2
          rw [if_neg (by rw [ho]; exact Bool.false_ne_true)] at q2
          exact .inr ⟨ho, v, q1, Rep.mv t.fr.mv _ _ q2⟩
        · exact .inl ⟨by rw [wipeD_get, if_neg h1]; exact h2, by rw [wipe_get, if_neg h1]⟩
      obtain ⟨r7, f7⟩ := rr
      obtain ⟨r8, f8, hM8, hs8⟩ := unhide_ok P1.rel e2 (t.fr.trans f7) r7 e5
      have P8 : PostE c cl σ φ Mo s H0 φi (MoU φ1 ps Moi) s3 H := P1.trans ⟨r8, f8, t.slots, t.fld⟩ fun e => ⟨(hc e).2.1, e⟩
      refine h (.ref D) φi (MoU φ1 ps Moi) H P8 ⟨D, rfl, ⟨t.mo, fun nm d ep z => ?_⟩, vs, t.at_, ?_⟩ fun _ ad ea => ?_
      · subst ep
        have : MoH φ1 Mo1 (some (nm, d)) D := .inr ⟨nm, d, rfl, z⟩
        exact r1h.dom D this hD
      · exact RepL.mv (mvM (fun a z => (f7.new a ((hM8 a).mp z)).elim id fun q => absurd q (r7.toRel.domM ((hM8 a).mp z))) (fun _ _ => rfl) (by rw [hs8]; exact Nat.le_refl _)) _ _ t.rep
      · cases ea
        exact none_back P1.fr.dom hD
end
end TR
end

section
set_option Elab.async false
set_option linter.all false
set_option maxRecDepth 100000
set_option autoImplicit false
/-! TrRpl: e.replace of written signs. -/
namespace TR
open PySem L2 PySem.Spec PyProof.Rows
section
variable {X : Cx} {o : Expr} {to : TE} {y z w : Str} {j k i : Nat} {c0 c1 c2 apos pos p3 q1 q2 : Pos}
/-- .. behind which a token was given out -/
def PE1 (X : Cx) (e : Expr) (t : TE) : Prop := ∀ (pins : List (Addr × Obj)) (s : Shared) (σ : L2.St) (H : Hp) (Q : VK), Inv X pins σ H s → t σ H Q →
  wpAny (model X.prog X.w) X.A (eval e X.env) (fun v s1 => 1 ≤ s1.toks ∧ EP X pins σ Q v s1) X.xe s
theorem str_pair : starEach [.Constant (.str y) j c0, .Constant (.str z) k c1] X.env = [(false, eval (.Constant (.str y) j c0) X.env), (false, eval (.Constant (.str z) k c1) X.env)] := by rfl
theorem pe_rep1 (ho : PE1 X o to) (hyz : (y == z) = false) (hb : attributeBase o "replace" X.env (eval o X.env) = eval o X.env) (hl : (apos.endLine == pos.line) = true) :
    PE X (.Call (.Attribute o "replace" apos) [.Constant (.str y) j c0, .Constant (.str z) k c1] [] pos) (CwR.tReplC to y z) := by
  refine ⟨fun pins s σ H Q I h => PySem.Call_method2 hb str_pair hl (thn (ho pins s σ H _ I h) fun v s1 q => ?_)⟩
  obtain ⟨hk, v', H1, I1, r1, x, rfl, hbd, q⟩ := q
  obtain ⟨t, rfl⟩ := r1
  refine ⟨"str", _, PySem.F.plainAttrs_str, PySem.F.slot_str_replace, PySem.F.type_str_replace, typeIs_str _ _ _, fun _ e => (nomatch e), ?_⟩
  refine Calls.callWith_builtin rfl (Calls.evalArgs_plain ?_)
  refine Calls.spliced_cons (Calls.Constant_str (Calls.spliced_cons (Calls.Constant_str (Calls.spliced_nil ?_))))
  refine PySem.SC.replace (Nat.ne_of_gt hk) (Nat.succ_ne_zero _) (Nat.ne_of_lt (Nat.lt_succ_self _)) hyz hbd fun t' m => ?_
  exact ⟨.str (Txt.replace x y z), H1, I1.tok m, ⟨t', rfl⟩, q⟩
theorem pe_slT {te : TE} {cp : Pos} (he : PE X o te) : PE1 X (.Subscript o (.Slice (some (.Constant (.int 1) j cp)) none none q1) q2) (fun σ H Q => te σ H fun x H1 => rSlS x (some 1) none H1 Q) := by
  intro pins s σ H Q I h
  refine Subscript_ (thn (he.run pins s σ H _ I h) fun v s1 ⟨x, H1, I1, r1, q1⟩ => ?_)
  refine wpAny_Slice ?_
  rw [evalPart_some]
  refine wpAny_Constant_int ?_
  rw [evalPart_none]
  refine wpAny_pure (wpAny_pure ?_)
  have I4 : Inv X pins σ H1 { s1 with heap := s1.heap.push { cls := .type "slice", data := .fields #[.int 1 s1.toks, .none, .none] }, toks := s1.toks + 1 } := I1.kept fun b ob q => Heap.get?_push_of_some _ q
  obtain ⟨T, id, hT, ht, hg⟩ := sl_str pins _ σ H1 x v (.int 1 s1.toks) .none (some 1) none s1.heap.objs.size Q I4 r1 (Heap.IsSliceOf.new ..) (.int 1 _) .none q1
  have hg2 := wpAny_toks_of (n := 1) (Nat.succ_le_succ (Nat.zero_le s1.toks)) hg
  exact tail_any (ops := [.ref s1.heap.objs.size, v]) ht hT (wpAny_mono hg2 (fun _ _ z => z) fun _ _ z => z.2) (by with_unfolding_all rfl)
end
def swapC (x y : Nat) (z : Tx) : Tx := z.map fun n => if n = x then y else n
theorem replL_one {x y : Nat} : ∀ z : Tx, StrLaws.replL [x] [y] z = swapC x y z
  | [] => StrLaws.replL_nil
  | n :: z => by
    by_cases h : n = x
    · subst h
      rw [StrLaws.replL_hit (by simp) rfl]
      show y :: StrLaws.replL [n] [y] z = _
      rw [replL_one z]
      simp [swapC]
    · rw [StrLaws.replL_miss (by simpa using h), replL_one z]
      simp [swapC, h]
theorem repl_tx {x y : Nat} {z : Tx} : Txt.replace (tx z) (tx [x]) (tx [y]) = tx (swapC x y z) := by
  rw [tx_of (Txt.replace (tx z) (tx [x]) (tx [y])), StrLaws.replace_list (by rw [tx_len]; exact Nat.le_refl 1), tx_list, tx_list, tx_list, replL_one]
theorem swap_ok {x y : Nat} {z : Tx} (h : okT z) (hy : y < 128) : okT (swapC x y z) := by
  refine ⟨by unfold swapC; rw [List.length_map]; exact h.1, fun n hn => ?_⟩
  obtain ⟨m, hm, rfl⟩ := List.mem_map.mp hn
  split
  · exact hy
  · exact h.2 m hm
theorem rep_few {z : Tx} {y : Nat} (h : z.length ≤ lim) : (tx z).length + ((tx z).length + 1) * (tx [y]).length ≤ 16777216 := by
  rw [tx_len, tx_len]
  unfold lim at h
  simp only [List.length_singleton]
  omega
section
variable {T : Tb} {F : Fi} {c : Cz} {W : Wx} {X : Cx} {o : E} {eo : Expr} {x y : Nat} {k0 k1 k2 : Nat} {p0 p p1 p2 q p3 q1 q2 : Pos}
theorem snd_rplP {w : Tx} (hw : okT w) (hy : y < 128) (hxy : x ≠ y) (hs : noSup eo) (hl : (p.endLine == q.line) = true) (ho : PE X eo (TE' T F c W o)) :
    PE X (.BinOp (.Constant (.str (tx w)) k0 p0) .Add (.Call (.Attribute eo "replace" p) [.Constant (.str (tx [x])) k1 p1, .Constant (.str (tx [y])) k2 p2] [] q) p3) (TE' T F c W (.rpl (some w) o x y)) := by
  have ne : (tx [x] == tx [y]) = false := beq_eq_false_iff_ne.mpr fun e => hxy (by have := tx_inj e; cases this; rfl)
  refine ⟨fun pins s σ H Q I hq => ?_⟩
  have key : CwR.tReplC (TE' T F c W o) (tx [x]) (tx [y]) σ H fun v H1 => ∃ z, v = .str z ∧ (tx w).length + z.length ≤ sizeLine ∧ Q (.str (tx w ++ z)) H1 := by
    obtain ⟨φ, Mo, s, rel, h⟩ := hq
    rw [evE] at h
    refine tE_of finE (PostE.refl (cl := true) rel) (fun e => ⟨rfl, e⟩) h fun d v φ1 Mo1 s1 H1 P1 v1 f1 h1 => ?_
    cases d with
    | str z =>
      have h1 : OutE c W ((E.rpl (some w) o x y).calm T) σ φ Mo s H (if w.length + z.length ≤ lim then R.ok (.str (w ++ swapC x y z)) s1 else .stuck) Q := h1
      by_cases hn : w.length + z.length ≤ lim
      · rw [if_pos hn] at h1
        have hz : okT z := v1.2
        have hz2 := swap_ok (x := x) hz hy
        have hl2 : (swapC x y z).length = z.length := List.length_map _
        refine ⟨tx z, v1.1, rep_few hz.1, ?_⟩
        rw [repl_tx]
        refine ⟨_, rfl, ?_, ?_⟩
        · rw [tx_len, tx_len, hl2]
          exact lim_line hn
        · rw [tx_app]
          exact told_str P1.rel (told_of P1 h1) ⟨by rw [List.length_append, hl2]; exact hn, fun n hn2 => (List.mem_append.mp hn2).elim (hw.2 n) (hz2.2 n)⟩
      · rw [if_neg hn] at h1
        exact h1.elim
    | _ => exact h1.elim
  refine wpAny_BinOp (Calls.Constant_str ?_)
  refine thn (CwR.pet_replC ho ne str_pair (sup_plain hs) hl pins _ σ H _ (Nat.succ_le_succ (Nat.zero_le s.toks)) (I.tok _) key) fun u s2 q => ?_
  obtain ⟨v, H1, I2, r2, z, rfl, hz, q⟩ := q
  exact op_add_str pins s2 σ H1 (.str (tx w)) (.str z) _ u Q I2 ⟨_, rfl⟩ r2 ⟨_, _, rfl, rfl, hz, q⟩
theorem snd_rplN (hy : y < 128) (hxy : x ≠ y) (hl : (p.endLine == q.line) = true) (ho : PE X eo (TE' T F c W o)) :
    PE X (.Call (.Attribute (.Subscript eo (.Slice (some (.Constant (.int 1) k0 p0)) none none q1) q2) "replace" p) [.Constant (.str (tx [x])) k1 p1, .Constant (.str (tx [y])) k2 p2] [] q) (TE' T F c W (.rpl none o x y)) := by
  have ne : (tx [x] == tx [y]) = false := beq_eq_false_iff_ne.mpr fun e => hxy (by have := tx_inj e; cases this; rfl)
  refine PE.mono (pe_rep1 (pe_slT ho) ne (sup_plain (by trivial)) hl) fun σ H Q hq => ?_
  obtain ⟨φ, Mo, s, rel, h⟩ := hq
  rw [evE] at h
  refine tE_of finE (PostE.refl (cl := true) rel) (fun e => ⟨rfl, e⟩) h fun d v φ1 Mo1 s1 H1 P1 v1 f1 h1 => ?_
  cases d with
  | str z =>
    have h1 : OutE c W ((E.rpl none o x y).calm T) σ φ Mo s H (R.ok (.str (swapC x y (z.drop 1))) s1) Q := h1
    have hz : okT z := v1.2
    have hd : okT (z.drop 1) := ⟨Nat.le_trans (by rw [List.length_drop]; omega) hz.1, fun n hn => hz.2 n (List.mem_of_mem_drop hn)⟩
    have ec : cut z (some 1) none = z.drop 1 := by
      cases z with
      | nil => rfl
      | cons a r =>
        show ((a :: r).drop (min 1 (r.length + 1))).take (r.length + 1 - min 1 (r.length + 1)) = r
        rw [Nat.min_eq_left (by omega), List.drop_succ_cons, List.drop_zero]
        exact List.take_of_length_le (by omega)
    refine ⟨tx z, v1.1, hz.line, tx (z.drop 1), by rw [cutS_tx, ec], rep_few hd.1, ?_⟩
    rw [repl_tx]
    exact told_str P1.rel (told_of P1 h1) (swap_ok hd hy)
  | _ => exact h1.elim
end
end TR
end

section
set_option Elab.async false
set_option linter.all false
set_option maxRecDepth 100000
set_option autoImplicit false
/-! TrExI: isinstance of a value that may be a caught exception, with or without a dict. -/
namespace TR
open PySem L2 PySem.Spec PySem.Calls PyProof.Rows
section
variable {prog : Program} {w : World} {A : Around} {E : Value → Shared → Prop} {st : Shared} {K : PySem.W.Frag} {ad Ca : Addr} {ob : Obj} {dob : Option Obj}
/-- err.__class__ -/
theorem cls_of_exc {R : Option Value → Shared → Prop} (C : ExcC K Ca) (kin : K.In st.heap) (J : PySem.W.InstAt st.heap ad ob Ca dob) (done : R (some (.ref Ca)) { st with toks := st.toks + 1 }) : wpAny (model prog w) A (getAttr? (.ref ad) "__class__") R E st := by
  obtain ⟨cd, hcd, _⟩ := PySem.W.any_some C.hd
  have fnd : PySem.W.findObj K Ca dob "__class__" = some (.bind (.builtin "getset_descriptor.__get__") (.builtin "object.__class__")) := by
    unfold PySem.W.findObj
    rw [hcd, Option.bind_some, C.ha, Option.bind_some]
    simp [C.hn, C.ht]
  obtain ⟨hp, gens, dr, tk, oss⟩ := st
  have l0 := J.type (M := model prog w)
  have l1 := PySem.W.looks_findIn (M := model prog w) kin C.hg
  have l2 := PySem.W.looks_findIn (M := model prog w) kin C.hk
  have l3 := PySem.W.looks_find (M := model prog w) kin J fnd
  have isB : PySem.W.Looks (model prog w) hp (isInstance (.ref ad) (.type "BaseException")) true := l0.andThen (PySem.W.looks_subIn kin C.hs)
  have z0 : (Value.builtin "BaseException.__getattribute__" == Value.builtin "object.__getattribute__") = false := by decide +kernel
  have z1 : (onTheHeap (Value.ref Ca) && Value.builtin "BaseException.__getattribute__" == Value.builtin "object.__getattribute__") = false := by rw [z0]; rfl
  unfold getAttr? getAttrBy? getAttrBy
  refine wpAny_bind (wpAny_mkText (wpAny_bind (wpAny_attempt (wpAny_holding (wpAny_bind (l0.at (wpAny_bind (l1.at ?_))))))))
  show wpAny _ _ (if (onTheHeap (Value.ref Ca) && Value.builtin "BaseException.__getattribute__" == Value.builtin "object.__getattribute__") = true then _ else _) _ _ _
  rw [z1, if_neg Bool.false_ne_true]
  unfold getAttrByItsOwn hookBefore callGetattribute boundAndCalled
  refine wpAny_bind ?_
  rw [if_pos (show onTheHeap (Value.ref Ca) = true from rfl)]
  refine l2.at (wpAny_bind (wpAny_attempt (wpAny_holding ?_)))
  rw [show (false && onTheHeap (Value.builtin "BaseException.__getattribute__")) = false from rfl, if_neg Bool.false_ne_true, PySem.F.excAttr_ValueError.ga.bind (.ref ad)]
  refine wpAny_bind (wpAny_pure ?_)
  show wpAny _ _ (call (.builtin "BaseException.__getattribute__") [.ref ad, .str "__class__" tk]) _ _ _
  refine wpAny_call (codeAny_call_builtin PySem.F.excAttr_ValueError.ga.plain PySem.F.entry_bexc_ga (@PySem.W.check_slot (model prog w) _ _ ⟨hp, gens, dr, tk + 1, oss⟩ "BaseException.__getattribute__" "BaseException" "__getattribute__" (.ref ad) [.str "__class__" tk] [] _ (by decide +kernel) (by decide +kernel) isB (PySem.F.args_bexc_ga (.ref ad) (.str "__class__" tk)) ?_))
  unfold Builtin.«object.__getattribute__»
  refine wpAny_bind (wpAny_of_eq (a := ((Value.ref ad : Value), [Value.str "__class__" tk])) (by first | rfl | (simp only [slotArgs]; rfl)) (wpAny_bind (wpAny_pure (wpAny_bind (l0.at (wpAny_bind (l3.at ?_)))))))
  show wpAny _ _ (holding [Value.builtin "object.__class__"] (call (.builtin "getset_descriptor.__get__") [.builtin "object.__class__", .ref ad, .ref Ca]) >>= ret) _ _ _
  refine wpAny_bind (wpAny_holding (wpAny_call (PySem.W.class_get (s := ⟨hp, gens, dr, tk + 1, oss⟩) (ox := ob) (od := dob) kin J C.hm (wpAny_pure ?_))))
  show wpAny _ _ (handedOut (.ref Ca)) _ _ _
  rw [PySem.W.handedOut_of (v := .ref Ca) rfl]
  first
    | exact wpAny_pure (wpAny_pure done)
    | exact wpAny_pure done
    | exact wpAny_pure (wpAny_bind (wpAny_pure (wpAny_pure done)))
theorem kit_exc (C : ExcC K Ca) : PySem.W.KitX K (.ref ad) (.ref Ca) (fun h => ∃ ob dob, PySem.W.InstAt h ad ob Ca dob) where
  ty := fun _ _ _ ⟨_, _, J⟩ => J.type
  it := fun _ _ kin _ => by
    obtain ⟨cd, hc, _⟩ := PySem.W.any_some C.hd
    unfold PySem.W.clsIn at hc
    split at hc
    · rename_i q
      intro A' Q' E' s' k r
      unfold isType loadHead
      exact wpAny_bind (wpAny_loadPart (k _ _ (kin _ _ q)) (wpAny_pure r))
    · cases hc
  ne := fun h tp dd its m sl kin htp => by
    obtain ⟨cd, hc, _⟩ := PySem.W.any_some C.hd
    refine Bool.eq_false_iff.mpr fun r => ?_
    have e : Ca = tp := Value.ref.inj (beq_iff_eq.mp r)
    subst e
    unfold PySem.W.clsIn at hc
    split at hc
    · rename_i q
      cases (kin _ _ q).symm.trans htp
    · cases hc
  ca := fun kin ⟨_, _, J⟩ k => cls_of_exc C kin J k
end
/-- a value's type; a caught exception's is its class -/
inductive TyZ (K : PySem.W.Frag) (H : Hp) : V → Value → Prop where
  | x {v : V} {t : Value} (h : TyX K H v t) : TyZ K H v t
  | exc {a D : Addr} {dx : Option Addr} (e : H a = some (ExH (.ref D) dx a)) (hd : ∀ dd, dx = some dd → ∃ us, H dd = some (.xd us)) (C : ExcC K D) : TyZ K H (.ref a) (.ref D)
section
variable {X : Cx} {pins : List (Addr × Obj)} {σ : L2.St} {H : Hp} {s : Shared}
theorem kit_ofZ {x : V} {u t : Value} (I : Inv X pins σ H s) (rx : RelV x u) (ty : TyZ X.K H x t) : ∃ P : Heap → Prop, PySem.W.KitX X.K u t P ∧ P s.heap ∧ u ≠ .builtin "__main__.__loader__#opaque" := by
  cases ty with
  | x h => exact kit_of I rx h
  | @exc a D dx e hd C =>
    cases (show u = Value.ref a from rx)
    obtain ⟨⟨oe, vs, ha, hz, hv⟩, _, _⟩ := (show ObjOk X.prog X.w H s.heap a (.ext fun h => ∃ (oe : Obj) (vs : Array Value), h.get? a = some oe ∧ Zc (.ref D) dx oe ∧ oe.data = .fields vs) from I.hok a _ e)
    refine ⟨_, kit_exc C, ?_, fun z => nomatch z⟩
    cases dx with
    | none => exact ⟨oe, none, ha, hz.1, by unfold PySem.W.notCls; rw [hv] <;> rfl, by rw [hz.2]; trivial⟩
    | some dd =>
      obtain ⟨us, ed⟩ := hd dd rfl
      have hx : ObjOk X.prog X.w H s.heap dd (.xd us) := I.hok dd _ ed
      obtain ⟨mA, hns, hr⟩ := hx
      obtain ⟨od, ho, hl⟩ := lookIn_ns hns
      exact ⟨oe, some od, ha, hz.1, by unfold PySem.W.notCls; rw [hv] <;> rfl, by rw [hz.2]; exact ho⟩
end
/-- isinstance(x, c) -/
def rZ1 (K : PySem.W.Frag) : List V → Hp → VK → Prop := fun xs H Q => ∃ (x c : V) (t u : Value) (b : Bool), xs = [x, c] ∧ ClsV c u ∧ TyZ K H x t ∧ PySem.W.kitOne K t u = some b ∧ Q (.bl b) H
/-- isinstance(x, (c1, ..)), a tuple that was just laid -/
def rZn (K : PySem.W.Frag) : List V → Hp → VK → Prop := fun xs H Q => ∃ (x : V) (tp : Addr) (cs : List V) (t : Value) (us : List Value) (b : Bool), xs = [x, .ref tp] ∧ H tp = some (.tup cs) ∧ Paired ClsV cs us ∧ TyZ K H x t ∧ PySem.W.kitAny K t us = some b ∧ Q (.bl b) H
section
variable {X : Cx}
theorem call_z1 : CallR X (.builtin "isinstance") (rZ1 X.K) := by
  intro pins s σ H xs us Q I r h
  obtain ⟨x, c, t, u, b, rfl, k, ty, e, q⟩ := h
  obtain ⟨ua, ub, rfl, ra, rb⟩ := vals2 r
  have eb := k.eq rb
  subst eb
  obtain ⟨P, Z, p, hx⟩ := kit_ofZ I ra ty
  exact PySem.W.kia_one Z I.kIn p e hx fun tk => ⟨.bl b, H, I.tok tk, rfl, q⟩
theorem call_zn : CallR X (.builtin "isinstance") (rZn X.K) := by
  intro pins s σ H xs us Q I r h
  obtain ⟨x, tp, cs, t, ws, b, rfl, hT, k, ty, e, q⟩ := h
  obtain ⟨ua, ub, rfl, ra, rb⟩ := vals2 r
  cases (show ub = Value.ref tp from rb)
  obtain ⟨P, Z, p, hx⟩ := kit_ofZ I ra ty
  obtain ⟨_, its, rv, o, g1, g2, m, g3⟩ := (show ObjOk X.prog X.w H s.heap tp (.tup cs) from I.hok tp _ hT)
  have ew := ClsV.all k rv
  subst ew
  obtain ⟨oc, od, dt, sl⟩ := o
  simp only at g2 g3
  subst g2 g3
  exact PySem.W.kia_tup Z I.kIn p g1 e hx fun tk => ⟨.bl b, H, I.tok tk, rfl, q⟩
end
end TR
end

section
set_option Elab.async false
set_option linter.all false
set_option maxRecDepth 100000
set_option autoImplicit false
/-! TrIsi: isinstance. -/
namespace TR
open PySem L2
/-- the type of a value -/
def icTy : Ic → String
  | .int => "int" | .bool => "bool" | .str => "str" | .list => "list" | .tuple => "tuple" | .dict => "dict" | .verr => "ValueError" | .own _ => ""
theorem kitB_flat : ∀ t ∈ ["NoneType", "bool", "int", "str", "list", "tuple", "dict"], ∀ u ∈ ["int", "bool", "str", "list", "tuple", "dict"], kitB t u = some (t == u || (t == "bool" && u == "int")) := by decide +kernel
theorem kit2 {K : PySem.W.Frag} (t u : String) (ht : t ∈ ["NoneType", "bool", "int", "str", "list", "tuple", "dict"]) (hu : u ∈ ["int", "bool", "str", "list", "tuple", "dict"]) {b : Bool} (e : (t == u || (t == "bool" && u == "int")) = b) : PySem.W.kitOne K (.type t) (.type u) = some b := by
  rw [← e]
  exact kit_ty (kitB_flat t ht u hu)
section
variable {T : Tb} {F : Fi} {c : Cz} {n : Nms} {N : List Str}
variable {W : Wx} {X : Cx} {a : E} {ea : Expr} {p q1 q : Pos} {mg : Str → Option Value}
variable {φ : Nm → Addr} {Mo : Addr → Prop} {s : St} {σ : L2.St} {H : Hp}
/-- the class that a test names -/
def icV (c : Cz) : Ic → V
  | .own k => .ref (c.ct k)
  | i => .ty (icTy i)
def icU (c : Cz) : Ic → Value
  | .own k => .ref (c.ct k)
  | i => .type (icTy i)
theorem ic_cls (i : Ic) : ClsV (icV c i) (icU c i) := by cases i <;> first | exact .own _ | exact .ty _
theorem ic_all : ∀ cs : List Ic, Paired ClsV (cs.map (icV c)) (cs.map (icU c))
  | [] => .nil
  | i :: cs => .cons (ic_cls i) (ic_all cs)
def tyC (c : Cz) : D → Option Value
  | .non => some (.type "NoneType") | .bl _ => some (.type "bool") | .int _ => some (.type "int") | .str _ => some (.type "str")
  | .lst _ => some (.type "list") | .olst _ => some (.type "list") | .tup _ => some (.type "tuple") | .dct _ => some (.type "dict") | .odct _ => some (.type "dict")
  | .obj k _ => some (.ref (c.ct k)) | .oobj k _ => some (.ref (c.ct k)) | .exc k _ => some (.ref (c.ct k))
  | _ => none
/-- a value's type -/
def tyOf (c : Cz) (s : St) (d : D) : Option Value := (cont s d).bind (tyC c)
theorem ty_ok (St : StF T c n mg) (rel : Rel c φ Mo s H) {d : D} {v : V} {t : Value} (h : VRep c φ Mo s H d v) (e : tyOf c s d = some t) : TyZ c.K H v t := by
  obtain ⟨x, ex, e⟩ := Option.bind_eq_some_iff.mp e
  have k := contV rel h ex
  have obj : ∀ k' fs, asObj s d = some (k', fs) → t = .ref (c.ct k') → TyZ c.K H v t := fun k' fs q et => by
    obtain ⟨hk', a, dx, us, rfl, ea, _⟩ := obj_at (m := "") rel St.anin0 h q
    have I := St.insf k' hk'
    subst et
    exact .x (.base (.ins ea (St.cls k' hk').1 I.ha I.hn I.htk I.hm))
  cases x with
  | non =>
    cases e
    rw [show v = .non from k]
    exact .x (.base .non)
  | bl b =>
    cases e
    rw [show v = .bl b from k]
    exact .x (.base (.bl _))
  | int b =>
    cases e
    rw [show v = .int b from k]
    exact .x (.base (.int _))
  | str b =>
    cases e
    rw [show v = .str (tx b) from k.1]
    exact .x (.base (.str _))
  | lst xs =>
    cases e
    obtain ⟨a, vs, rfl, _, k, _⟩ := k
    exact .x (.base (.lst k))
  | olst xs =>
    cases e
    obtain ⟨a, vs, rfl, k, _⟩ := k
    exact .x (.base (.lst k))
  | tup xs =>
    cases e
    obtain ⟨a, vs, rfl, k, _⟩ := k
    rcases k with ⟨_, k⟩ | ⟨o, its, m, k1, k2, _⟩
    · exact .x (.base (.tup k))
    · exact .x (.kTuple k1 k2)
  | dct xs =>
    cases e
    obtain ⟨a, vs, rfl, _, k, _⟩ := k
    rcases k with k | ⟨o, k⟩
    · exact .x (.base (.dK k))
    · exact .x (.fDict k)
  | odct xs =>
    cases e
    obtain ⟨a, vs, rfl, k, _⟩ := k
    exact .x (.base (.dK k))
  | obj k' fs =>
    cases e
    exact obj k' fs (by unfold asObj; rw [ex]) rfl
  | oobj k' fs =>
    cases e
    exact obj k' fs (by unfold asObj; rw [ex]) rfl
  | exc k' fs =>
    cases e
    obtain ⟨hk, a, dx, rfl, _, ea, r0, r⟩ := (show Rep c φ (Ms φ Mo s) H s.sto.length (.exc k' fs) v from k)
    refine .exc ea (fun dd ed => ?_) (St.exf k' hk).xc
    by_cases hf : fs = []
    · rw [r0 hf] at ed
      cases ed
    · obtain ⟨d2, us, e1, _, e2, _⟩ := r hf
      rw [e1] at ed
      cases ed
      exact ⟨us, e2⟩
  | _ => cases e
theorem hk_of {k : Nat} (h : c.hc k = true) : c.hk k = true := by unfold Cz.hk; rw [h]; rfl
theorem hk_ofx {k : Nat} (h : c.hx k = true) : c.hk k = true := by unfold Cz.hk; rw [h, Bool.or_true]
theorem isi_ok (St : StF T c n mg) (rel : Rel c φ Mo s H) {d : D} {v : V} {i : Ic} {b : Bool} (hi : ∀ k, i = .own k → c.hk k = true) (h : VRep c φ Mo s H d v) (e : isIc T s d i = some b) :
    ∃ t, tyOf c s d = some t ∧ PySem.W.kitOne c.K t (icU c i) = some b := by
  have at_ : ∀ {x : D} {t : Value}, cont s d = some x → tyC c x = some t → tyOf c s d = some t := fun {x t} q r => by
    unfold tyOf
    rw [q]
    exact r
  have obj : ∀ k' fs, asObj s d = some (k', fs) → c.hc k' = true ∧ tyOf c s d = some (.ref (c.ct k')) := fun k' fs q => by
    refine ⟨(obj_at (m := "") rel St.anin0 h q).1, ?_⟩
    unfold asObj at q
    split at q
    · rename_i q2
      cases q
      exact at_ q2 rfl
    · rename_i q2
      cases q
      exact at_ q2 rfl
    · cases q
  have flt : flat d = true → ∃ t ∈ ["NoneType", "bool", "int", "str"], tyOf c s d = some (.type t) := fun hf => by
    cases d with
    | non => exact ⟨"NoneType", by decide, rfl⟩
    | bl b => exact ⟨"bool", by decide, rfl⟩
    | int b => exact ⟨"int", by decide, rfl⟩
    | str b => exact ⟨"str", by decide, rfl⟩
    | _ => cases hf
  cases i with
  | verr =>
    cases d with
    | exc k' fs =>
      have e : some (T.sub k' 99) = some b := e
      rw [← e]
      exact ⟨_, rfl, St.isV k' h.1⟩
    | _ => cases (show (none : Option Bool) = some b from e)
  | own k =>
    have hk := hi k rfl
    simp only [isIc] at e
    split at e
    · cases e
      exact ⟨_, rfl, St.isO _ k (hk_ofx h.1) hk⟩
    · split at e
      · rename_i q
        have k1 := obj _ _ q
        cases e
        exact ⟨_, k1.2, St.isO _ k (hk_of k1.1) hk⟩
      · split at e
        · rename_i hf
          cases e
          obtain ⟨t, ht, hty⟩ := flt hf
          exact ⟨_, hty, St.isF k hk t ht⟩
        · cases e
  | int =>
    cases d <;> first | (cases (show (none : Option Bool) = some b from e); done) | (cases (show some _ = some b from e); exact ⟨_, rfl, kit2 _ _ (by decide) (by decide) (by decide)⟩)
  | bool =>
    cases d <;> first | (cases (show (none : Option Bool) = some b from e); done) | (cases (show some _ = some b from e); exact ⟨_, rfl, kit2 _ _ (by decide) (by decide) (by decide)⟩)
  | str =>
    cases d <;> first | (cases (show (none : Option Bool) = some b from e); done) | (cases (show some _ = some b from e); exact ⟨_, rfl, kit2 _ _ (by decide) (by decide) (by decide)⟩)
  | list =>
    simp only [isIc] at e
    split at e <;> first | (cases e; done) | (rename_i q; cases e; exact ⟨_, at_ q rfl, kit2 _ _ (by decide) (by decide) (by decide)⟩)
  | tuple =>
    simp only [isIc] at e
    split at e <;> first | (cases e; done) | (rename_i q; cases e; exact ⟨_, at_ q rfl, kit2 _ _ (by decide) (by decide) (by decide)⟩)
  | dict =>
    simp only [isIc] at e
    split at e <;> first | (cases e; done) | (rename_i q; cases e; exact ⟨_, at_ q rfl, kit2 _ _ (by decide) (by decide) (by decide)⟩)
theorem isi_one (St : StF T c n mg) (rel : Rel c φ Mo s H) {d : D} {v : V} {i : Ic} {b : Bool} (hi : ∀ k, i = .own k → c.hk k = true) (h : VRep c φ Mo s H d v) (e : anyIc T s d [i] = some b) :
    ∃ t, TyZ c.K H v t ∧ PySem.W.kitOne c.K t (icU c i) = some b := by
  have e : isIc T s d i = some b := by
    unfold anyIc at e
    split at e
    · rename_i q
      cases e
      exact q
    · rename_i q
      cases e
      exact q
    · cases e
  obtain ⟨t, h1, h2⟩ := isi_ok St rel hi h e
  exact ⟨t, ty_ok St rel h h1, h2⟩
theorem isi_any (St : StF T c n mg) (rel : Rel c φ Mo s H) {d : D} {v : V} (h : VRep c φ Mo s H d v) {t : Value} (ht : tyOf c s d = some t) : ∀ {cs : List Ic} {b : Bool}, (∀ k, .own k ∈ cs → c.hk k = true) → anyIc T s d cs = some b → PySem.W.kitAny c.K t (cs.map (icU c)) = some b
  | [], b, _, e => e
  | i :: cs, b, hi, e => by
    unfold anyIc at e
    split at e
    · rename_i q
      cases e
      obtain ⟨t', h1, h2⟩ := isi_ok St rel (fun k e => hi k (by rw [e]; exact List.mem_cons_self)) h q
      rw [ht] at h1
      cases h1
      exact kitAny_cons h2 (fun q => by cases q) fun _ => rfl
    · rename_i q
      obtain ⟨t', h1, h2⟩ := isi_ok St rel (fun k e => hi k (by rw [e]; exact List.mem_cons_self)) h q
      rw [ht] at h1
      cases h1
      exact kitAny_cons h2 (fun _ => isi_any St rel h ht (fun k hk => hi k (List.mem_cons_of_mem _ hk)) e) fun q => by cases q
    · cases e
theorem pe_ic {i : Ic} (St : StF T c n X.mg) (hi : ∀ k, i = .own k → c.hk k = true) (hg : Gl X (icName n i)) (hd : (icName n i == ("__debug__" : Str)) = false) : PE X (.Name (icName n i) p) (tC (icV c i)) := by
  have b : ∀ {x : Str} {t : String}, x ∈ blts → Gl X x → bootBuiltins x = some (.type t) → x ≠ "__name__" → (x == ("__debug__" : Str)) = false → PE X (.Name x p) (tC (.ty t)) := fun hx hg hb hn hd => pe_bltn hg (St.blt _ hx) hb rfl hn hd
  cases i with
  | own k =>
    have := hi k rfl
    unfold Cz.hk at this
    cases hk : c.hc k with
    | true => exact pe_glob hg (St.cls k hk).2 rfl hd
    | false =>
      rw [hk] at this
      exact pe_glob hg (St.exf k this).glo rfl hd
  | int => exact b (x := "int") (t := "int") (by decide +kernel) hg (by decide +kernel) (by decide +kernel) hd
  | bool => exact b (x := "bool") (t := "bool") (by decide +kernel) hg (by decide +kernel) (by decide +kernel) hd
  | str => exact b (x := "str") (t := "str") (by decide +kernel) hg (by decide +kernel) (by decide +kernel) hd
  | list => exact b (x := "list") (t := "list") (by decide +kernel) hg (by decide +kernel) (by decide +kernel) hd
  | tuple => exact b (x := "tuple") (t := "tuple") (by decide +kernel) hg (by decide +kernel) (by decide +kernel) hd
  | dict => exact b (x := "dict") (t := "dict") (by decide +kernel) hg (by decide +kernel) (by decide +kernel) hd
  | verr => exact b (x := "ValueError") (t := "ValueError") (by decide +kernel) hg (by decide +kernel) (by decide +kernel) hd
def tIcs (c : Cz) : List Ic → TA
  | [] => tNil
  | i :: cs => tCons (tC (icV c i)) (tIcs c cs)
theorem ics_to {c : Cz} : ∀ {cs : List Ic} {σ : L2.St} {H : Hp} {Q : List V → Hp → Prop}, Q (cs.map (icV c)) H → tIcs c cs σ H Q
  | [], σ, H, Q, h => h
  | i :: cs, σ, H, Q, h => ics_to (cs := cs) (Q := fun xs H2 => Q (icV c i :: xs) H2) h
theorem pa_ics {sc : Scope} (St : StF T c n X.mg) (hs : X.env.scope = sc) : ∀ {cs : List Ic} {es : List Expr}, (∀ k, .own k ∈ cs → c.hk k = true) → IsCs n sc cs es → PA X es (tIcs c cs)
  | [], es, _, h => by
    rw [show es = [] from h]
    exact pa_nil
  | i :: cs, es, hi, h => by
    obtain ⟨q, t, rfl, hg, h⟩ := h
    subst hs
    exact pa_cons (pe_ic St (fun k e => hi k (by rw [e]; exact List.mem_cons_self)) hg.1 hg.2) (pa_ics St rfl (fun k hk => hi k (List.mem_cons_of_mem _ hk)) h) (star_cons rfl)
theorem isCs_len : ∀ {cs : List Ic} {es : List Expr} {sc : Scope}, IsCs n sc cs es → cs.length = es.length
  | [], es, _, h => by
    rw [show es = [] from h]
    rfl
  | i :: cs, es, _, h => by
    obtain ⟨q, t, rfl, hg, h⟩ := h
    rw [List.length_cons, List.length_cons, isCs_len h]
theorem snd_isi {cs : List Ic} {ec : Expr} {sc : Scope} (hK : X.K = c.K) (hs : X.env.scope = sc) (St : StF T c n X.mg) (hi : ∀ k, .own k ∈ cs → c.hk k = true) (hg0 : Gl X "isinstance") (hc : IsC c n sc cs ec) (hp : plainX ea = true) (ha : PE X ea (TE' T F c W a)) :
    PE X (.Call (.Name "isinstance" p) [ea, ec] [] q) (TE' T F c W (.isi a cs)) := by
  rcases hc with ⟨i, q1, rfl, rfl, hg⟩ | ⟨es, k, q1, hne, rfl, hl, hcs⟩
  · have s1 := star_cons (es := [.Name (icName n i) q1]) (env := X.env) hp
    have s2 := star_cons (e := .Name (icName n i) q1) (es := []) (env := X.env) rfl
    subst hs
    have go : PE X (.Call (.Name "isinstance" p) [ea, .Name (icName n i) q1] [] q) (tCB (rZ1 X.K) (tCons (TE' T F c W a) (tCons (tC (icV c i)) tNil))) :=
      pe_callB call_z1 hg0 (St.blt _ (by decide +kernel)) PyProof.Rows.boot_isinstance (pa_cons ha (pa_cons (pe_ic St (fun k e => hi k (by rw [e]; exact List.mem_cons_self)) hg.1 hg.2) pa_nil s2) s1) (he := s1) (hpl := by rw [s2]; rfl)
    refine PE.mono go fun σ H Q h => ?_
    obtain ⟨φ, Mo, s, rel, h⟩ := h
    rw [evE] at h
    refine tE_of finE (PostE.refl (cl := true) rel) (fun e => ⟨rfl, e⟩) h fun x xv φ1 Mo1 s1 H1 P1 v1 f1 h1 => ?_
    obtain ⟨d, e, h1⟩ := of_some h1
    rw [Option.map_eq_some_iff] at e
    obtain ⟨b, e, rfl⟩ := e
    obtain ⟨t, h2, h3⟩ := isi_one St P1.rel.toRel (fun k e => hi k (by rw [e]; exact List.mem_cons_self)) v1 e
    refine ⟨xv, icV c i, t, icU c i, b, rfl, ic_cls i, by rw [hK]; exact h2, by rw [hK]; exact h3, ?_⟩
    exact told_bl P1.rel (told_of P1 h1)
  · have s1 := star_cons (es := [.Tuple es k q1]) (env := X.env) hp
    have s2 := star_cons (e := .Tuple es k q1) (es := []) (env := X.env) rfl
    have go : PE X (.Call (.Name "isinstance" p) [ea, .Tuple es k q1] [] q) (tCB (rZn X.K) (tCons (TE' T F c W a) (tCons (tTup (tIcs c cs)) tNil))) :=
      pe_callB call_zn hg0 (St.blt _ (by decide +kernel)) PyProof.Rows.boot_isinstance (pa_cons ha (pa_cons (pe_tup (pa_ics St hs hi hcs)) pa_nil s2) s1) (he := s1) (hpl := by rw [s2]; rfl)
    refine PE.mono go fun σ H Q h => ?_
    obtain ⟨φ, Mo, s, rel, h⟩ := h
    rw [evE] at h
    refine tE_of finE (PostE.refl (cl := true) rel) (fun e => ⟨rfl, e⟩) h fun x xv φ1 Mo1 s1 H1 P1 v1 f1 h1 => ?_
    obtain ⟨d, e, h1⟩ := of_some h1
    rw [Option.map_eq_some_iff] at e
    obtain ⟨b, e, rfl⟩ := e
    refine ics_to ⟨?_, fun tp hp => ?_⟩
    · rw [List.length_map, isCs_len hcs]
      exact Nat.le_trans hl (by decide)
    have g := grow_frz (Mo := Mo1) (o := .tup (cs.map (icV c))) hp
    have P2 : PostE c true σ φ1 Mo1 s1 H1 φ1 _ s1 _ := PostE.grow P1.rel g
    have v2 := P2.vrep (fun _ => rfl) v1
    cases ht : tyOf c s1 x with
    | none =>
      exfalso
      cases cs with
      | nil => exact hne rfl
      | cons i cs =>
        have : ∃ b, isIc T s1 x i = some b := by
          unfold anyIc at e
          split at e
          · rename_i q
            exact ⟨_, q⟩
          · rename_i q
            exact ⟨_, q⟩
          · cases e
        obtain ⟨b', e'⟩ := this
        obtain ⟨t, h2, _⟩ := isi_ok St P2.rel.toRel (fun k e => hi k (by rw [e]; exact List.mem_cons_self)) v2 e'
        rw [ht] at h2
        cases h2
    | some t =>
      refine ⟨xv, tp, cs.map (icV c), t, cs.map (icU c), b, rfl, upd_same, ic_all cs, by rw [hK]; exact ty_ok St P2.rel.toRel v2 ht, by rw [hK]; exact isi_any St P2.rel.toRel v2 ht hi e, ?_⟩
      exact told_bl P2.rel (told_of (P1.trans P2 fun h => ⟨h, rfl⟩) h1)
end
end TR
end

section
set_option Elab.async false
set_option linter.all false
set_option maxRecDepth 100000
set_option autoImplicit false
/-! TrSnd: every expression does what the evaluator says. -/
namespace TR
open PySem L2
section
variable {T : Tb} {F : Fi} {c : Cz} {n : Nms} {N : List Str} {k : Nat}
theorem gl_of {X : Cx} {sc : Scope} {x : Str} (hs : X.env.scope = sc) (h : gl sc x) : Gl X x := by
  subst hs
  exact h.1
theorem vis_of {X : Cx} {sc : Scope} {x : Str} (hs : X.env.scope = sc) (h : vis sc x) : vis X.env.scope x := by
  subst hs
  exact h
theorem Gd.blk {sc sc' : Scope} {W : Wx} {X : Cx} {own : List (Str × Nat)} (G : Gd T F c n N sc W k X false) (hb : BlkOk N sc sc' own) (s : Shared) (H : Hp) (C : Addr) (cl : List (Str × Addr)) (fp : List Addr) :
    Gd T F c n N (relS sc' sc) W0 k (X.blk s H sc' (compEnvC sc' cl C X.env) fp) false where
  K_ := G.K_
  N_ := G.N_
  nd := G.nd
  sc_ := by
    rw [← G.sc_]
    rfl
  kind := hb.kind
  units := G.units
  kp := G.kp
  calm := G.calm
  room := fun e => ⟨(G.room e).hd, (G.room e).dp, (G.room e).un⟩
  pas := fun _ σ => passAt takes0 σ
  own := fun _ => PassesOwn.never
  fok := G.fok
  w0 := fun _ => rfl
  roomH := G.roomH
  hok := G.hok
  st := G.st
structure SndA (T : Tb) (F : Fi) (c : Cz) (W : Wx) (X : Cx) (a : E) (es : List Expr) : Prop where
  pa : PA X es (TA' T F c W a)
  pb : PA X es (TB' T F c W a)
  nil : es = [] → a = .nil
  star : ∀ x ∈ starEach es X.env, x.1 = false
  plain : ∀ e ∈ es, plainX e = true
  len : es.length = alen a
theorem SndA.args {W : Wx} {X : Cx} {a : E} {es : List Expr} (A : SndA T F c W X a es) (h : es.length < 20) : Args T F c W X a es := ⟨A.pa, A.nil, A.star, A.plain, h⟩
theorem SndA.argB {W : Wx} {X : Cx} {a : E} {es : List Expr} (A : SndA T F c W X a es) (h : es.length < 20) : ArgB T F c W X a es := ⟨A.pb, A.nil, A.star, A.plain, h⟩
def SE (T : Tb) (F : Fi) (c : Cz) (n : Nms) (N : List Str) (k : Nat) (ir : E) : Prop := ∀ (hot : Bool) (sc : Scope) (W : Wx) (X : Cx) (e : Expr), Gd T F c n N sc W k X hot → (hot = true → hotE c.hs ir = true) → IsE c n N sc ir e → Snd T F c W X ir e
def SA (T : Tb) (F : Fi) (c : Cz) (n : Nms) (N : List Str) (k : Nat) (ir : E) : Prop := ∀ (hot : Bool) (sc : Scope) (W : Wx) (X : Cx) (es : List Expr), Gd T F c n N sc W k X hot → (hot = true → hotE c.hs ir = true) → IsA c n N sc ir es → SndA T F c W X ir es
def SI (T : Tb) (F : Fi) (c : Cz) (n : Nms) (N : List Str) (k : Nat) (ir : E) : Prop := ∀ (sc : Scope) (W : Wx) (X : Cx) (sk : Sk) (tg : Tg) (et e : Expr), Gd T F c n N sc W k X false → IsI c n N sc sk ir tg e → (∀ is, tg = .many is → ∃ es k p, et = .Tuple es k p) → PI X et e (tI c W (ir.calm T) sk (evB T F ir)) ∧ plainX e = true
theorem units_of {W : Wx} {X : Cx} {sc : Scope} {hot : Bool} (G : Gd T F c n N sc W k X hot) : X.A.units + 64 < cLine := G.units
theorem hot_no {hot : Bool} {e : E} (h : hot = true → hotE c.hs e = true) (he : hotE c.hs e = false) : hot = false := by
  cases hot with
  | false => rfl
  | true => rw [he] at h; cases h rfl
theorem folded {e : Expr} {env : Env} (h : plainX e = true) : ∀ x, foldedSetIterable e env x = pure x := by
  intro x
  cases e <;> first | rfl | cases h
/-- what a comprehension needs -/
structure LcOk (T : Tb) (F : Fi) (c : Cz) (N : List Str) (X : Cx) (elt a cond : E) (tg : Tg) (sk : Sk) (own : List (Str × Nat)) (ee et it : Expr) (ifs : List Expr) (sc' : Scope) (W : Wx) : Prop where
  pi : PI X et it (tI c W (a.calm T) sk (evB T F a))
  ok : BlkOk X.N X.env.scope sc' own
  hg : ∀ (s : Shared) (H : Hp) (C : Addr) (cl : List (Str × Addr)) (fp : List Addr), PG (X.blk s H sc' (compEnvC sc' cl C X.env) fp) et (gT c.K tg)
  ht : ∀ (s : Shared) (H : Hp) (C : Addr) (cl : List (Str × Addr)) (fp : List Addr), PTs (X.blk s H sc' (compEnvC sc' cl C X.env) fp) ifs (TC' T F c W0 cond)
  he : ∀ (s : Shared) (H : Hp) (C : Addr) (cl : List (Str × Addr)) (fp : List Addr), PE (X.blk s H sc' (compEnvC sc' cl C X.env) fp) ee (TE' T F c W0 elt)
  hs : ∀ x, foldedSetIterable it X.env x = pure x
theorem lc_ok {elt a cond : E} {tg : Tg} {ow : List Nat} {sk : Sk} (ihe : SE T F c n N k elt) (iha : SI T F c n N k a) (ihc : SE T F c n N k cond) {sc : Scope} {W : Wx} {X : Cx} {e : Expr} (G : Gd T F c n N sc W k X false) (h : IsE c n N sc (.lc elt tg ow sk a cond) e) :
    ∃ ee et it ifs sc' p own, e = .ListComp ee [⟨et, it, ifs, 0⟩] sc' p ∧ ow = own.map (·.2) ∧ (∀ i ∈ tgs tg, i ∈ ow) ∧ LcOk T F c N X elt a cond tg sk own ee et it ifs sc' W := by
  obtain ⟨ee, et, it, ifs, sc', p, own, rfl, how, hb, h1, h2, h3, h4, h5⟩ := h
  have ok := blkOk_by hb
  have hi := iha sc W X sk tg et it G h3 fun is e => by
    subst e
    obtain ⟨es, kk, tp, e, _⟩ := h1
    exact ⟨es, kk, tp, e⟩
  refine ⟨ee, et, it, ifs, sc', p, own, rfl, how, h2, hi.1, by rw [G.N_, G.sc_]; exact ok, fun s H C cl fp => ?_, fun s H C cl fp => ?_, fun s H C cl fp => ?_, folded hi.2⟩
  · have GB := G.blk ok s H C cl fp
    exact pg_T (GB.calm rfl) GB.K_ GB.N_ GB.nd GB.sc_ (fun q => by cases q) h1
  · have GB := G.blk ok s H C cl fp
    rcases h5 with ⟨rfl, rfl⟩ | ⟨ec, tc, rfl, h5⟩
    · exact pts_nil
    · have hn : cond ≠ .nil := fun z => by
        subst z
        exact h5
      rw [TC'_ne hn]
      exact pts_one ((ihc _ _ _ _ ec GB (fun q => by cases q) h5).pt tc)
  · exact (ihe _ _ _ _ ee (G.blk ok s H C cl fp) (fun q => by cases q) h4).pe
theorem snd_lc {elt a cond : E} {tg : Tg} {ow : List Nat} {sk : Sk} (ihe : SE T F c n N k elt) (iha : SI T F c n N k a) (ihc : SE T F c n N k cond) {sc : Scope} {W : Wx} {X : Cx} {e : Expr} (G : Gd T F c n N sc W k X false) (h : IsE c n N sc (.lc elt tg ow sk a cond) e) : PE X e (TE' T F c W (.lc elt tg ow sk a cond)) := by
  obtain ⟨ee, et, it, ifs, sc', p, own, rfl, how, h2, L⟩ := lc_ok ihe iha ihc G h
  refine PE.mono (pe_lc (G.calm rfl) (by rw [G.N_]; exact G.nd) L.pi L.ok L.hg L.ht L.he L.hs) fun σ H Q q => ?_
  rw [← how]
  exact lc_to h2 q
theorem isA_nil {c : Cz} {n : Nms} {N : List Str} {sc : Scope} {a : E} (h : IsA c n N sc a []) : a = .nil := by
  cases a <;> first | rfl | (exact absurd h (by simp [IsA]))
theorem isA_cons {c : Cz} {n : Nms} {N : List Str} {sc : Scope} {a : E} {e : Expr} {es : List Expr} (h : IsA c n N sc a (e :: es)) : isNil a = false := by
  cases a <;> first | rfl | (exact absurd h (by simp [IsA]))
theorem snd_all : ∀ ir : E, SE T F c n N k ir ∧ SA T F c n N k ir ∧ SI T F c n N k ir := by
  intro ir
  have noA : (∀ sc es, ¬ IsA c n N sc ir es) → SA T F c n N k ir := fun h hot sc W X es _ _ q => absurd q (h sc es)
  have noI : (∀ sc sk tg e, ¬ IsI c n N sc sk ir tg e) → SI T F c n N k ir := fun h sc W X sk tg et e _ q => absurd q (h sc sk tg e)
  induction ir with
  | nil =>
    refine ⟨fun hot sc W X e G hh h => h.elim, fun hot sc W X es G hh h => ?_, noI fun sc sk tg e h => h⟩
    rw [show es = [] from h]
    exact ⟨PA.mono pa_nil fun σ H Q h => nilA_to h, PA.mono pa_nil fun σ H Q h => nilB_to h, fun _ => rfl, fun x h => (by cases h), fun x h => (by cases h), rfl⟩
  | cons a r iha ihr =>
    have iha := iha (fun h hot sc W X es _ _ q => absurd q (h sc es)) (fun h sc W X sk tg et e _ q => absurd q (h sc sk tg e))
    have ihr := ihr (fun h hot sc W X es _ _ q => absurd q (h sc es)) (fun h sc W X sk tg et e _ q => absurd q (h sc sk tg e))
    have hA : SA T F c n N k (.cons a r) := fun hot sc W X es G hh h => by
      have hst := h.star (env := X.env)
      obtain ⟨e, t, rfl, h1, h2⟩ := h
      have s1 := iha.1 hot sc W X e G (fun q => by have := hh q; simp only [hotE, Bool.and_eq_true] at this; simp only [this]) h1
      have s2 := ihr.2.1 hot sc W X t G (fun q => by have := hh q; simp only [hotE, Bool.and_eq_true] at this; simp only [this]) h2
      have hs := star_cons (es := t) (env := X.env) h1.plain
      refine ⟨PA.mono (pa_cons s1.pe s2.pa hs) fun σ H Q h => argA_to h, PA.mono (pa_cons s1.pe s2.pb hs) fun σ H Q h => argB_to h, fun h => (by cases h), hst, fun x hx => ?_, ?_⟩
      · rcases List.mem_cons.mp hx with rfl | hx
        · exact h1.plain
        · exact s2.plain x hx
      · show t.length + 1 = alen r + 1
        rw [s2.len]
    refine ⟨fun hot sc W X e G hh h => h.elim, hA, fun sc W X sk tg et e G h ht => ?_⟩
    have blt : ∀ {x : Str}, x ∈ blts → X.mg x = none := fun hx => G.st.blt _ hx
    have one : ∀ ea, r = .nil → IsE c n N sc a ea → SndA T F c W X (.cons a r) [ea] := fun ea hr h1 => hA false sc W X [ea] G (fun q => by cases q) ⟨ea, [], rfl, h1, by subst hr; rfl⟩
    cases r with
    | nil =>
      rcases h with ⟨rfl, h1⟩ | ⟨rfl, ea, p, q, rfl, hg, h1⟩ | ⟨rfl, ⟨is, rfl⟩, ea, p, q, rfl, hg, h1⟩
      · have hcal : (E.cons a .nil).calm T = a.calm T := by show (a.calm T && true) = _; rw [Bool.and_true]
        rw [hcal]
        exact ⟨pi_src G.K_ (iha.1 false sc W X e G (fun q => by cases q) h1).pe, h1.plain⟩
      · exact ⟨pi_rng1 (gl_of G.sc_ hg) (blt (by decide)) h1.plain (one ea rfl h1).pb, rfl⟩
      · obtain ⟨es, kk, tp, rfl⟩ := ht is rfl
        exact ⟨pi_enu G.K_ (gl_of G.sc_ hg) (blt (by decide)) h1.plain (one ea rfl h1).pb, rfl⟩
    | cons b r2 =>
      cases r2 with
      | nil =>
        obtain ⟨rfl, ea, eb, p, q, rfl, hg, h1, h2⟩ := h
        have A := hA false sc W X [ea, eb] G (fun q => by cases q) ⟨ea, [eb], rfl, h1, eb, [], rfl, h2, rfl⟩
        exact ⟨pi_rng2 (gl_of G.sc_ hg) (blt (by decide)) h1.plain h2.plain A.pb, rfl⟩
      | _ => exact h.elim
    | _ => exact h.elim
  | non =>
    refine ⟨fun hot sc W X e G hh h => ?_, noA fun sc es h => h, noI fun sc sk tg e h => h⟩
    obtain ⟨j, p, rfl⟩ := h
    exact Snd.noT (snd_c pe_non (fun s => rfl) fun _ _ _ _ => rfl) rfl
  | bl b =>
    refine ⟨fun hot sc W X e G hh h => ?_, noA fun sc es h => h, noI fun sc sk tg e h => h⟩
    obtain ⟨j, p, rfl⟩ := h
    exact Snd.val (snd_c pe_bl (fun s => rfl) fun _ _ _ _ => rfl) (fun _ => rfl) rfl
  | int i =>
    refine ⟨fun hot sc W X e G hh h => ?_, noA fun sc es h => h, noI fun sc sk tg e h => h⟩
    obtain ⟨j, p, rfl⟩ := h
    exact Snd.noT (snd_c pe_int (fun s => rfl) fun _ _ _ _ => rfl) rfl
  | str z =>
    refine ⟨fun hot sc W X e G hh h => ?_, noA fun sc es h => h, noI fun sc sk tg e h => h⟩
    obtain ⟨ok, j, p, rfl⟩ := h
    exact Snd.noT (snd_c pe_str (fun s => rfl) fun _ _ _ _ => ⟨rfl, ok⟩) rfl
  | var i =>
    refine ⟨fun hot sc W X e G hh h => ?_, noA fun sc es h => h, noI fun sc sk tg e h => h⟩
    obtain ⟨x, p, h1, h2, rfl⟩ := h
    exact Snd.val (snd_var (by rw [G.N_]; exact h1) (vis_of G.sc_ h2)) (fun _ => rfl) rfl
  | glob g =>
    refine ⟨fun hot sc W X e G hh h => ?_, noA fun sc es h => h, noI fun sc sk tg e h => h⟩
    obtain ⟨p, h1, rfl⟩ := h
    exact Snd.noT (snd_glob G.st (gl_of G.sc_ h1) h1.2) rfl
  | tup a ih =>
    have ih := ih (fun h hot sc W X es _ _ q => absurd q (h sc es)) (fun h sc W X sk tg et e _ q => absurd q (h sc sk tg e))
    refine ⟨fun hot sc W X e G hh h => ?_, noA fun sc es h => h, noI fun sc sk tg e h => h⟩
    obtain ⟨es, kk, p, rfl, hl, h1⟩ := h
    have A := ih.2.1 hot sc W X es G (fun q => by have := hh q; simp only [hotE, Bool.and_eq_true] at this; simp only [this]) h1
    exact Snd.noT (snd_tup (by rw [← A.len]; exact hl) A.pa) rfl
  | lst a ih =>
    have ih := ih (fun h hot sc W X es _ _ q => absurd q (h sc es)) (fun h sc W X sk tg et e _ q => absurd q (h sc sk tg e))
    refine ⟨fun hot sc W X e G hh h => ?_, noA fun sc es h => h, noI fun sc sk tg e h => h⟩
    obtain ⟨es, p, rfl, hl, h1⟩ := h
    have A := ih.2.1 hot sc W X es G (fun q => by have := hh q; simp only [hotE, Bool.and_eq_true] at this; simp only [this]) h1
    exact Snd.noT (snd_lst (by rw [← A.len]; exact hl) A.pa) rfl
  | dic0 =>
    refine ⟨fun hot sc W X e G hh h => ?_, noA fun sc es h => h, noI fun sc sk tg e h => h⟩
    obtain ⟨p, rfl⟩ := h
    exact Snd.noT snd_dic0 rfl
  | cel a ih =>
    have ih := ih (fun h hot sc W X es _ _ q => absurd q (h sc es)) (fun h sc W X sk tg et e _ q => absurd q (h sc sk tg e))
    refine ⟨fun hot sc W X e G hh h => ?_, noA fun sc es h => h, noI fun sc sk tg e h => h⟩
    exact Snd.noT (snd_cel (ih.1 hot sc W X e G (fun q => by have := hh q; simp only [hotE, Bool.and_eq_true] at this; simp only [this]) h).pe) rfl
  | bin o a b iha ihb =>
    have iha := iha (fun h hot sc W X es _ _ q => absurd q (h sc es)) (fun h sc W X sk tg et e _ q => absurd q (h sc sk tg e))
    have ihb := ihb (fun h hot sc W X es _ _ q => absurd q (h sc es)) (fun h sc W X sk tg et e _ q => absurd q (h sc sk tg e))
    refine ⟨fun hot sc W X e G hh h => ?_, noA fun sc es h => h, noI fun sc sk tg e h => h⟩
    obtain ⟨ea, eb, p, rfl, h1, h2⟩ := h
    exact Snd.noT (snd_bin G.K_ (iha.1 hot sc W X ea G (fun q => by have := hh q; simp only [hotE, Bool.and_eq_true] at this; simp only [this]) h1).pe (ihb.1 hot sc W X eb G (fun q => by have := hh q; simp only [hotE, Bool.and_eq_true] at this; simp only [this]) h2).pe) rfl
  | neg a ih =>
    have ih := ih (fun h hot sc W X es _ _ q => absurd q (h sc es)) (fun h sc W X sk tg et e _ q => absurd q (h sc sk tg e))
    refine ⟨fun hot sc W X e G hh h => ?_, noA fun sc es h => h, noI fun sc sk tg e h => h⟩
    obtain ⟨ea, p, rfl, h1⟩ := h
    exact Snd.noT (snd_neg (ih.1 hot sc W X ea G (fun q => by have := hh q; simp only [hotE, Bool.and_eq_true] at this; simp only [this]) h1).pe) rfl
  | cmp o a b iha ihb =>
    have iha := iha (fun h hot sc W X es _ _ q => absurd q (h sc es)) (fun h sc W X sk tg et e _ q => absurd q (h sc sk tg e))
    have ihb := ihb (fun h hot sc W X es _ _ q => absurd q (h sc es)) (fun h sc W X sk tg et e _ q => absurd q (h sc sk tg e))
    refine ⟨fun hot sc W X e G hh h => ?_, noA fun sc es h => h, noI fun sc sk tg e h => h⟩
    obtain ⟨ea, eb, p, rfl, h1, h2⟩ := h
    exact snd_cmp G.K_ (units_of G) h2.plain (iha.1 hot sc W X ea G (fun q => by have := hh q; simp only [hotE, Bool.and_eq_true] at this; simp only [this]) h1).pe (ihb.1 hot sc W X eb G (fun q => by have := hh q; simp only [hotE, Bool.and_eq_true] at this; simp only [this]) h2).pe
  | isN a ih =>
    have ih := ih (fun h hot sc W X es _ _ q => absurd q (h sc es)) (fun h sc W X sk tg et e _ q => absurd q (h sc sk tg e))
    refine ⟨fun hot sc W X e G hh h => ?_, noA fun sc es h => h, noI fun sc sk tg e h => h⟩
    obtain ⟨ea, p, j, q, rfl, h1⟩ := h
    exact snd_isN (ih.1 hot sc W X ea G (fun q => by have := hh q; simp only [hotE, Bool.and_eq_true] at this; simp only [this]) h1).pe
  | notN a ih =>
    have ih := ih (fun h hot sc W X es _ _ q => absurd q (h sc es)) (fun h sc W X sk tg et e _ q => absurd q (h sc sk tg e))
    refine ⟨fun hot sc W X e G hh h => ?_, noA fun sc es h => h, noI fun sc sk tg e h => h⟩
    obtain ⟨ea, p, j, q, rfl, h1⟩ := h
    exact snd_notN (ih.1 hot sc W X ea G (fun q => by have := hh q; simp only [hotE, Bool.and_eq_true] at this; simp only [this]) h1).pe
  | chn o1 o2 a b d iha ihb ihd =>
    have iha := iha (fun h hot sc W X es _ _ q => absurd q (h sc es)) (fun h sc W X sk tg et e _ q => absurd q (h sc sk tg e))
    have ihb := ihb (fun h hot sc W X es _ _ q => absurd q (h sc es)) (fun h sc W X sk tg et e _ q => absurd q (h sc sk tg e))
    have ihd := ihd (fun h hot sc W X es _ _ q => absurd q (h sc es)) (fun h sc W X sk tg et e _ q => absurd q (h sc sk tg e))
    refine ⟨fun hot sc W X e G hh h => ?_, noA fun sc es h => h, noI fun sc sk tg e h => h⟩
    obtain ⟨ea, eb, ed, p, rfl, h1, h2, h3, l1, l2⟩ := h
    exact snd_chn l1 l2 G.K_ (units_of G) h3.plain (iha.1 hot sc W X ea G (fun q => by have := hh q; simp only [hotE, Bool.and_eq_true] at this; simp only [this]) h1).pe (ihb.1 hot sc W X eb G (fun q => by have := hh q; simp only [hotE, Bool.and_eq_true] at this; simp only [this]) h2).pe (ihd.1 hot sc W X ed G (fun q => by have := hh q; simp only [hotE, Bool.and_eq_true] at this; simp only [this]) h3).pe
  | and a b iha ihb =>
    have iha := iha (fun h hot sc W X es _ _ q => absurd q (h sc es)) (fun h sc W X sk tg et e _ q => absurd q (h sc sk tg e))
    have ihb := ihb (fun h hot sc W X es _ _ q => absurd q (h sc es)) (fun h sc W X sk tg et e _ q => absurd q (h sc sk tg e))
    refine ⟨fun hot sc W X e G hh h => ?_, noA fun sc es h => h, noI fun sc sk tg e h => h⟩
    obtain ⟨t1, t2, ea, eb, r, p, rfl, h1, ⟨rfl, h2⟩ | ⟨hr, _, h2⟩⟩ := h
    · have s2 := ihb.1 hot sc W X eb G (fun q => by have := hh q; simp only [hotE, Bool.and_eq_true] at this; simp only [this]) h2
      exact snd_and t1 (iha.1 hot sc W X ea G (fun q => by have := hh q; simp only [hotE, Bool.and_eq_true] at this; simp only [this]) h1) (pe_one s2.pe) (pw_and1 (s2.pt t2))
    · have s2 := ihb.1 hot sc W X _ G (fun q => by have := hh q; simp only [hotE, Bool.and_eq_true] at this; simp only [this]) h2
      exact snd_and t1 (iha.1 hot sc W X ea G (fun q => by have := hh q; simp only [hotE, Bool.and_eq_true] at this; simp only [this]) h1) s2.pe (s2.pw rfl t2)
  | or a b iha ihb =>
    have iha := iha (fun h hot sc W X es _ _ q => absurd q (h sc es)) (fun h sc W X sk tg et e _ q => absurd q (h sc sk tg e))
    have ihb := ihb (fun h hot sc W X es _ _ q => absurd q (h sc es)) (fun h sc W X sk tg et e _ q => absurd q (h sc sk tg e))
    refine ⟨fun hot sc W X e G hh h => ?_, noA fun sc es h => h, noI fun sc sk tg e h => h⟩
    obtain ⟨t1, t2, ea, eb, r, p, rfl, h1, ⟨rfl, h2⟩ | ⟨hr, _, h2⟩⟩ := h
    · have s2 := ihb.1 hot sc W X eb G (fun q => by have := hh q; simp only [hotE, Bool.and_eq_true] at this; simp only [this]) h2
      exact snd_or t1 (iha.1 hot sc W X ea G (fun q => by have := hh q; simp only [hotE, Bool.and_eq_true] at this; simp only [this]) h1) (pe_one s2.pe) (pw_or1 (s2.pt t2))
    · have s2 := ihb.1 hot sc W X _ G (fun q => by have := hh q; simp only [hotE, Bool.and_eq_true] at this; simp only [this]) h2
      exact snd_or t1 (iha.1 hot sc W X ea G (fun q => by have := hh q; simp only [hotE, Bool.and_eq_true] at this; simp only [this]) h1) s2.pe (s2.pw rfl t2)
  | not a ih =>
    have ih := ih (fun h hot sc W X es _ _ q => absurd q (h sc es)) (fun h sc W X sk tg et e _ q => absurd q (h sc sk tg e))
    refine ⟨fun hot sc W X e G hh h => ?_, noA fun sc es h => h, noI fun sc sk tg e h => h⟩
    obtain ⟨t1, ea, p, rfl, h1⟩ := h
    exact snd_not t1 (ih.1 hot sc W X ea G (fun q => by have := hh q; simp only [hotE, Bool.and_eq_true] at this; simp only [this]) h1)
  | ife t a b iht iha ihb =>
    have iht := iht (fun h hot sc W X es _ _ q => absurd q (h sc es)) (fun h sc W X sk tg et e _ q => absurd q (h sc sk tg e))
    have iha := iha (fun h hot sc W X es _ _ q => absurd q (h sc es)) (fun h sc W X sk tg et e _ q => absurd q (h sc sk tg e))
    have ihb := ihb (fun h hot sc W X es _ _ q => absurd q (h sc es)) (fun h sc W X sk tg et e _ q => absurd q (h sc sk tg e))
    refine ⟨fun hot sc W X e G hh h => ?_, noA fun sc es h => h, noI fun sc sk tg e h => h⟩
    obtain ⟨t1, et, ea, eb, p, rfl, h0, h1, h2⟩ := h
    exact Snd.noT (snd_ife t1 (iht.1 hot sc W X et G (fun q => by have := hh q; simp only [hotE, Bool.and_eq_true] at this; simp only [this]) h0) (iha.1 hot sc W X ea G (fun q => by have := hh q; simp only [hotE, Bool.and_eq_true] at this; simp only [this]) h1) (ihb.1 hot sc W X eb G (fun q => by have := hh q; simp only [hotE, Bool.and_eq_true] at this; simp only [this]) h2)) rfl
  | ix a i iha ihb =>
    have iha := iha (fun h hot sc W X es _ _ q => absurd q (h sc es)) (fun h sc W X sk tg et e _ q => absurd q (h sc sk tg e))
    have ihb := ihb (fun h hot sc W X es _ _ q => absurd q (h sc es)) (fun h sc W X sk tg et e _ q => absurd q (h sc sk tg e))
    refine ⟨fun hot sc W X e G hh h => ?_, noA fun sc es h => h, noI fun sc sk tg e h => h⟩
    obtain ⟨ea, ei, p, rfl, h1, h2⟩ := h
    exact Snd.noT (snd_ix G.K_ (units_of G) h2.plain (iha.1 hot sc W X ea G (fun q => by have := hh q; simp only [hotE, Bool.and_eq_true] at this; simp only [this]) h1).pe (ihb.1 hot sc W X ei G (fun q => by have := hh q; simp only [hotE, Bool.and_eq_true] at this; simp only [this]) h2).pe) rfl
  | sl a lo hi iha ihl ihh =>
    have iha := iha (fun h hot sc W X es _ _ q => absurd q (h sc es)) (fun h sc W X sk tg et e _ q => absurd q (h sc sk tg e))
    have ihl := ihl (fun h hot sc W X es _ _ q => absurd q (h sc es)) (fun h sc W X sk tg et e _ q => absurd q (h sc sk tg e))
    have ihh := ihh (fun h hot sc W X es _ _ q => absurd q (h sc es)) (fun h sc W X sk tg et e _ q => absurd q (h sc sk tg e))
    refine ⟨fun hot sc W X e G hh h => ?_, noA fun sc es h => h, noI fun sc sk tg e h => h⟩
    obtain ⟨ea, l, h', q, p, rfl, h1, h2, h3⟩ := h
    have part : ∀ {ir : E} {o : Option Expr}, SE T F c n N k ir → (hot = true → hotE c.hs ir = true) → ((ir = .nil ∧ o = none) ∨ ∃ el, o = some el ∧ IsE c n N sc ir el) → PO X o (TO' T F c W ir) := fun {ir o} ih hh h => by
      rcases h with ⟨rfl, rfl⟩ | ⟨el, rfl, h⟩
      · exact po_none
      · refine TO'.some (fun z => ?_) (ih hot sc W X el G hh h).pe
        subst z
        exact h
    exact Snd.noT (snd_sl G.K_ (iha.1 hot sc W X ea G (fun q => by have := hh q; simp only [hotE, Bool.and_eq_true] at this; simp only [this]) h1).pe (part ihl.1 (fun q => by have := hh q; simp only [hotE, Bool.and_eq_true] at this; simp only [this]) h2) (part ihh.1 (fun q => by have := hh q; simp only [hotE, Bool.and_eq_true] at this; simp only [this]) h3)) rfl
  | fld a f ih =>
    have ih := ih (fun h hot sc W X es _ _ q => absurd q (h sc es)) (fun h sc W X sk tg et e _ q => absurd q (h sc sk tg e))
    refine ⟨fun hot sc W X e G hh h => ?_, noA fun sc es h => h, noI fun sc sk tg e h => h⟩
    obtain ⟨ea, p, rfl, hf, hs, h1⟩ := h
    exact Snd.val (snd_fld G.st.anin hf (fun k hk => by rw [G.K_]; exact ⟨(G.st.cls k hk).1, G.st.natt k f hk hf⟩) (fun k hk => by rw [G.K_]; exact ⟨(G.st.exf k hk).xf, (G.st.exf k hk).noat f hf⟩) hs (ih.1 hot sc W X ea G (fun q => by have := hh q; simp only [hotE, Bool.and_eq_true] at this; simp only [this]) h1).pe) (fun _ => rfl) rfl
  | call f a ih =>
    have ih := ih (fun h hot sc W X es _ _ q => absurd q (h sc es)) (fun h sc W X sk tg et e _ q => absurd q (h sc sk tg e))
    refine ⟨fun hot sc W X e G hh h => ?_, noA fun sc es h => h, noI fun sc sk tg e h => h⟩
    obtain ⟨es, p, q, rfl, hl, hgf, hg, h1⟩ := h
    cases hot with
    | false => exact Snd.val (snd_call G hgf (gl_of G.sc_ hg) ((ih.2.1 false sc W X es G (fun q => by cases q) h1).args hl)) (fun _ => rfl) rfl
    | true =>
      have hh : (c.hs f && hotE c.hs a) = true := hh rfl
      rw [Bool.and_eq_true] at hh
      exact Snd.val (snd_callH G hh.1 hgf (gl_of G.sc_ hg) ((ih.2.1 true sc W X es G (fun _ => hh.2) h1).args hl)) (fun _ => rfl) rfl
  | mth o m a iho iha =>
    have iho := iho (fun h hot sc W X es _ _ q => absurd q (h sc es)) (fun h sc W X sk tg et e _ q => absurd q (h sc sk tg e))
    have iha := iha (fun h hot sc W X es _ _ q => absurd q (h sc es)) (fun h sc W X sk tg et e _ q => absurd q (h sc sk tg e))
    refine ⟨fun hot sc W X e G hh h => ?_, noA fun sc es h => h, noI fun sc sk tg e h => h⟩
    obtain rfl := hot_no hh rfl
    obtain ⟨eo, es, p, q, rfl, hl, hs, hp, h1, h2⟩ := h
    exact Snd.val (snd_mth G hs hp (iho.1 false sc W X eo G (fun q => by cases q) h1).pe ((iha.2.1 false sc W X es G (fun q => by cases q) h2).args hl)) (fun _ => rfl) rfl
  | mk k0 a ih =>
    have ih := ih (fun h hot sc W X es _ _ q => absurd q (h sc es)) (fun h sc W X sk tg et e _ q => absurd q (h sc sk tg e))
    refine ⟨fun hot sc W X e G hh h => ?_, noA fun sc es h => h, noI fun sc sk tg e h => h⟩
    obtain rfl := hot_no hh rfl
    obtain ⟨es, p, q, rfl, hl, hg, h1⟩ := h
    refine Snd.noT ?_ rfl
    cases hi : T.ini k0 with
    | none =>
      refine ⟨fun pins s σ H Q I hq => ?_⟩
      obtain ⟨φ, Mo, s, rel, h⟩ := hq
      rw [evE, hi] at h
      exact h.elim
    | some o =>
      cases o with
      | none =>
        cases es with
        | nil =>
          obtain rfl := isA_nil h1
          exact snd_mk0 G hi (gl_of G.sc_ hg) hg.2
        | cons e0 es0 =>
          refine ⟨fun pins s σ H Q I hq => ?_⟩
          obtain ⟨φ, Mo, s, rel, h⟩ := hq
          rw [evE, hi] at h
          have hn : isNil a = false := isA_cons h1
          have h : OutE c W ((E.mk k0 a).calm T) σ φ Mo s H (if isNil a = true then R.ok (.oobj k0 []) s else .stuck) Q := h
          rw [hn] at h
          exact h.elim
      | some f => exact snd_mk G hi (gl_of G.sc_ hg) hg.2 ((ih.2.1 false sc W X es G (fun q => by cases q) h1).args hl)
  | mkc k0 a ih =>
    have ih := ih (fun h hot sc W X es _ _ q => absurd q (h sc es)) (fun h sc W X sk tg et e _ q => absurd q (h sc sk tg e))
    refine ⟨fun hot sc W X e G hh h => ?_, noA fun sc es h => h, noI fun sc sk tg e h => h⟩
    obtain rfl := hot_no hh rfl
    obtain ⟨es, p, q, rfl, hl, hg, h1⟩ := h
    refine Snd.noT ?_ rfl
    cases hi : T.ini k0 with
    | none =>
      refine ⟨fun pins s σ H Q I hq => ?_⟩
      obtain ⟨φ, Mo, s, rel, h⟩ := hq
      rw [evE, hi] at h
      exact h.elim
    | some o =>
      cases o with
      | none =>
        refine ⟨fun pins s σ H Q I hq => ?_⟩
        obtain ⟨φ, Mo, s, rel, h⟩ := hq
        rw [evE, hi] at h
        exact h.elim
      | some f => exact snd_mkc G hi (gl_of G.sc_ hg) hg.2 ((ih.2.1 false sc W X es G (fun q => by cases q) h1).args hl)
  | bi b a ih =>
    have ih := ih (fun h hot sc W X es _ _ q => absurd q (h sc es)) (fun h sc W X sk tg et e _ q => absurd q (h sc sk tg e))
    refine ⟨fun hot sc W X e G hh h => ?_, noA fun sc es h => h, noI fun sc sk tg e h => h⟩
    obtain ⟨es, p, q, rfl, hl, hg, h1⟩ := h
    refine Snd.noT (snd_bi G.K_ (fun q => G.calm (hot_no hh (by show (hotB b && hotE c.hs a) = false; rw [q]; rfl))) (gl_of G.sc_ hg) (G.st.blt _ (by cases b <;> decide)) hl ((ih.2.1 hot sc W X es G (fun q => by have := hh q; simp only [hotE, Bool.and_eq_true] at this; simp only [this]) h1).argB ?_)) rfl
    rw [hl]
    cases b <;> decide
  | bm b o a iho iha =>
    have iho := iho (fun h hot sc W X es _ _ q => absurd q (h sc es)) (fun h sc W X sk tg et e _ q => absurd q (h sc sk tg e))
    have iha := iha (fun h hot sc W X es _ _ q => absurd q (h sc es)) (fun h sc W X sk tg et e _ q => absurd q (h sc sk tg e))
    refine ⟨fun hot sc W X e G hh h => ?_, noA fun sc es h => h, noI fun sc sk tg e h => h⟩
    obtain ⟨eo, es, p, q, rfl, hl, hs, hp, h1, h2, h3, h4⟩ := h
    exact Snd.val (snd_bm G.K_ hs hp h3 h4 (iho.1 hot sc W X eo G (fun q => by have := hh q; simp only [hotE, Bool.and_eq_true] at this; simp only [this]) h1).pe ((iha.2.1 hot sc W X es G (fun q => by have := hh q; simp only [hotE, Bool.and_eq_true] at this; simp only [this]) h2).argB hl)) (fun _ => rfl) rfl
  | rpl pre o x y ih =>
    have ih := ih (fun h hot sc W X es _ _ q => absurd q (h sc es)) (fun h sc W X sk tg et e _ q => absurd q (h sc sk tg e))
    refine ⟨fun hot sc W X e G hh h => ?_, noA fun sc es h => h, noI fun sc sk tg e h => h⟩
    cases pre with
    | none =>
      obtain ⟨eo, k0, p0, q1, q2, p, k1, p1, k2, p2, q, rfl, hy, hxy, hl, h1⟩ := h
      exact Snd.val (snd_rplN hy hxy hl (ih.1 hot sc W X eo G (fun q => hh q) h1).pe) (fun _ => rfl) rfl
    | some w =>
      obtain ⟨eo, k0, p0, p, k1, p1, k2, p2, q, p3, rfl, hw, hy, hxy, hs, hl, h1⟩ := h
      exact Snd.val (snd_rplP hw hy hxy hs hl (ih.1 hot sc W X eo G (fun q => hh q) h1).pe) (fun _ => rfl) rfl
  | isi a cs ih =>
    have ih := ih (fun h hot sc W X es _ _ q => absurd q (h sc es)) (fun h sc W X sk tg et e _ q => absurd q (h sc sk tg e))
    refine ⟨fun hot sc W X e G hh h => ?_, noA fun sc es h => h, noI fun sc sk tg e h => h⟩
    obtain ⟨ea, ec, p, q, rfl, hi, hg0, hc, h1⟩ := h
    exact Snd.val (snd_isi G.K_ G.sc_ G.st hi (gl_of G.sc_ hg0) hc h1.plain (ih.1 hot sc W X ea G (fun q => by have := hh q; simp only [hotE, Bool.and_eq_true] at this; simp only [this]) h1).pe) (fun _ => rfl) rfl
  | lc elt tg ow sk a cond ihe iha ihc =>
    have ihe := ihe (fun h hot sc W X es _ _ q => absurd q (h sc es)) (fun h sc W X sk tg et e _ q => absurd q (h sc sk tg e))
    have iha := iha (fun h hot sc W X es _ _ q => absurd q (h sc es)) (fun h sc W X sk tg et e _ q => absurd q (h sc sk tg e))
    have ihc := ihc (fun h hot sc W X es _ _ q => absurd q (h sc es)) (fun h sc W X sk tg et e _ q => absurd q (h sc sk tg e))
    refine ⟨fun hot sc W X e G hh h => ?_, noA fun sc es h => h, noI fun sc sk tg e h => h⟩
    obtain rfl := hot_no hh rfl
    exact Snd.noT (snd_lc ihe.1 iha.2.2 ihc.1 G h) rfl
end
end TR
end

section
set_option Elab.async false
set_option linter.all false
set_option maxRecDepth 100000
set_option autoImplicit false
/-! TrStm: what a statement leaves; blocks. -/
namespace TR
open PySem L2
section
variable {c : Cz} {φ φ' φ'' : Nm → Addr} {Mo Mo' Mo'' : Addr → Prop} {s s' s'' : St} {σ σ' : L2.St} {H H' H'' : Hp} {W : Wx} {d : D} {v : V}
/-- the frame behind a return: a slot's own thing may have become the value -/
structure FrR (φ : Nm → Addr) (Mo : Addr → Prop) (s : St) (H : Hp) (φ' : Nm → Addr) (Mo' : Addr → Prop) (s' : St) (H' : Hp) : Prop where
  imm : ∀ a o, H a = some o → ¬ Ms φ Mo s a → H' a = some o
  new : ∀ a, Ms φ' Mo' s' a → Ms φ Mo s a ∨ H a = none
  outer : ∀ a, Mo a → Mo' a ∧ ∀ o, H a = some o → H' a = some o
  fresh : ∀ a, Mo' a → Mo a ∨ H a = none ∨ Sl φ s a
  cell : ∀ n, n < s.sto.length → φ' (.cell n) = φ (.cell n)
  len : s.sto.length ≤ s'.sto.length
  dom : ∀ a, H a ≠ none → H' a ≠ none
  hid : ∀ nm, own s' nm = some .hid → own s nm = some .hid ∧ φ' nm = φ nm
  s0 : φ' (.slot 0) = φ (.slot 0)
theorem Fr.r (f : Fr φ Mo s H φ' Mo' s' H') : FrR φ Mo s H φ' Mo' s' H' := ⟨f.imm, f.new, f.outer, fun a h => (f.fresh a h).imp id .inl, f.cell, f.len, f.dom, f.hid, f.s0⟩
theorem Fr.sl (f : Fr φ Mo s H φ' Mo' s' H') {a : Addr} (h : Sl φ' s' a) : Sl φ s a ∨ H a = none := by
  obtain ⟨i, d, h, e⟩ := h
  rcases f.slot i d h with ⟨⟨d0, h0⟩, q⟩ | q
  · exact .inl ⟨i, d0, h0, by rw [← q]; exact e⟩
  · exact .inr (by rw [← e]; exact q)
theorem Fr.transR (p : Fr φ Mo s H φ' Mo' s' H') (q : FrR φ' Mo' s' H' φ'' Mo'' s'' H'') : FrR φ Mo s H φ'' Mo'' s'' H'' where
  imm := fun a o h hn => q.imm a o (p.imm a o h hn) fun z => (p.new a z).elim hn fun e => by
    rw [h] at e
    cases e
  new := fun a h => (q.new a h).elim (p.new a) fun e => .inr (none_back p.dom e)
  outer := fun a h => ⟨(q.outer a (p.outer a h).1).1, fun o e => (q.outer a (p.outer a h).1).2 o ((p.outer a h).2 o e)⟩
  fresh := fun a h => by
    rcases q.fresh a h with h | h | h
    · exact (p.fresh a h).imp id .inl
    · exact .inr (.inl (none_back p.dom h))
    · exact .inr ((p.sl h).elim .inr .inl)
  cell := fun n h => (q.cell n (Nat.lt_of_lt_of_le h p.len)).trans (p.cell n h)
  len := Nat.le_trans p.len q.len
  dom := fun a h => q.dom a (p.dom a h)
  hid := fun nm h => ⟨(p.hid nm (q.hid nm h).1).1, ((q.hid nm h).2).trans (p.hid nm (q.hid nm h).1).2⟩
  s0 := q.s0.trans p.s0
def freshR (φ : Nm → Addr) (s : St) (H : Hp) (d : D) (v : V) : Prop := temp d = true → ∀ a, v = .ref a → H a = none ∨ Sl φ s a
theorem freshV.r (h : freshV H d v) : freshR φ s H d v := fun t a e => .inl (h t a e)
theorem freshR.back (h : freshR φ' s' H' d v) (f : Fr φ Mo s H φ' Mo' s' H') : freshR φ s H d v := fun t a e => by
  rcases h t a e with q | q
  · exact .inl (none_back f.dom q)
  · exact (f.sl q).elim .inr .inl
def OutS (c : Cz) (W : Wx) (φ : Nm → Addr) (Mo : Addr → Prop) (s : St) (H : Hp) (r : Fl) (D : Ends) : Prop := match r with
  | .nx s' => ∀ σ' φ' Mo' H', RelE c φ' Mo' s' σ' H' → Fr φ Mo s H φ' Mo' s' H' → D.nx σ' H'
  | .brk s' => ∀ σ' φ' Mo' H', RelE c φ' Mo' s' σ' H' → Fr φ Mo s H φ' Mo' s' H' → D.bk σ' H'
  | .cnt s' => ∀ σ' φ' Mo' H', RelE c φ' Mo' s' σ' H' → Fr φ Mo s H φ' Mo' s' H' → D.ct σ' H'
  | .ret d s' => ∀ v φ' Mo' H', nref d → Rel c φ' Mo' s' H' → FrR φ Mo s H φ' Mo' s' H' → VRep c φ' Mo' s' H' d v → freshR φ s H d v → D.rt v H'
  | .exc k fs s' => ∀ σ' cls dx φ' Mo' H', RelE c φ' Mo' s' σ' H' → Fr φ Mo s H φ' Mo' s' H' → ExcR c φ' Mo' s' H' k fs cls dx → W cls dx σ' H'
  | .stuck => False
/-- a statement's reading by the evaluator -/
def tS (c : Cz) (W : Wx) (r : St → Fl) : TS := fun D σ H => ∃ φ Mo s, RelE c φ Mo s σ H ∧ OutS c W φ Mo s H (r s) D
theorem OutS.step {r : Fl} {D : Ends} (h : OutS c W φ Mo s H r D) (f : Fr φ Mo s H φ' Mo' s' H') : OutS c W φ' Mo' s' H' r D := by
  cases r with
  | nx s2 => exact fun σ2 φ2 Mo2 H2 r f2 => h σ2 φ2 Mo2 H2 r (f.trans f2)
  | brk s2 => exact fun σ2 φ2 Mo2 H2 r f2 => h σ2 φ2 Mo2 H2 r (f.trans f2)
  | cnt s2 => exact fun σ2 φ2 Mo2 H2 r f2 => h σ2 φ2 Mo2 H2 r (f.trans f2)
  | ret d s2 => exact fun v φ2 Mo2 H2 nr r f2 vr fv => h v φ2 Mo2 H2 nr r (f.transR f2) vr (fv.back f)
  | exc k fs s2 => exact fun σ2 cls dx φ2 Mo2 H2 r f2 x => h σ2 cls dx φ2 Mo2 H2 r (f.trans f2) x
  | stuck => exact h
theorem seq_to {r1 r2 : St → Fl} {D : Ends} (h : tS c W (fun s => (r1 s).then r2) D σ H) : tSeq (tS c W r1) (tS c W r2) D σ H := by
  obtain ⟨φ, Mo, s, rel, h⟩ := h
  refine ⟨φ, Mo, s, rel, ?_⟩
  have h : OutS c W φ Mo s H ((r1 s).then r2) D := h
  cases e : r1 s with
  | nx s2 =>
    rw [e] at h
    exact fun σ2 φ2 Mo2 H2 r f => ⟨φ2, Mo2, s2, r, h.step f⟩
  | brk s2 =>
    rw [e] at h
    exact h
  | cnt s2 =>
    rw [e] at h
    exact h
  | ret d s2 =>
    rw [e] at h
    exact h
  | exc k fs s2 =>
    rw [e] at h
    exact h
  | stuck =>
    rw [e] at h
    exact h
end
section
variable {T : Tb} {F : Fi} {c : Cz} {W : Wx} {cl : Bool} {a b : E}
/-- an expression ahead of a statement's rest -/
theorem tE_fl {r : St → R D} {k : D → St → Fl} {φ : Nm → Addr} {Mo : Addr → Prop} {s : St} {σ : L2.St} {H : Hp} {Dn : Ends} {Q : VK} (rel : RelE c φ Mo s σ H) (h : OutS c W φ Mo s H ((r s).fl k) Dn)
    (q : ∀ d v φ2 Mo2 s2 H2, PostE c cl σ φ Mo s H φ2 Mo2 s2 H2 → VRep c φ2 Mo2 s2 H2 d v → freshV H d v → OutS c W φ Mo s H (k d s2) Dn → Q v H2) : tE c W cl r σ H Q := by
  refine ⟨φ, Mo, s, rel, ?_⟩
  cases e : r s with
  | stuck =>
    rw [e] at h
    exact h.elim
  | exc k fs s2 =>
    rw [e] at h
    exact fun cls dx φ2 Mo2 H2 P x => h σ cls dx φ2 Mo2 H2 P.rel P.fr x
  | ok d s2 =>
    rw [e] at h
    exact fun v φ2 Mo2 H2 P vr fr => q d v φ2 Mo2 s2 H2 P vr fr h
theorem tT_fl {r : St → R Bool} {k : Bool → St → Fl} {φ : Nm → Addr} {Mo : Addr → Prop} {s : St} {σ : L2.St} {H : Hp} {Dn : Ends} {Q : Bool → Hp → Prop} (rel : RelE c φ Mo s σ H) (h : OutS c W φ Mo s H ((r s).fl k) Dn)
    (q : ∀ d φ2 Mo2 s2 H2, PostE c cl σ φ Mo s H φ2 Mo2 s2 H2 → OutS c W φ Mo s H (k d s2) Dn → Q d H2) : tT c W cl r σ H Q := by
  refine ⟨φ, Mo, s, rel, ?_⟩
  cases e : r s with
  | stuck =>
    rw [e] at h
    exact h.elim
  | exc k fs s2 =>
    rw [e] at h
    exact fun cls dx φ2 Mo2 H2 P x => h σ cls dx φ2 Mo2 H2 P.rel P.fr x
  | ok d s2 =>
    rw [e] at h
    exact fun φ2 Mo2 H2 P => q d φ2 Mo2 s2 H2 P h
/-- ifs -/
theorem if_to {t : E} {r1 r2 : St → Fl} {σ : L2.St} {H : Hp} {Dn : Ends} (h : tS c W (fun s => (asB (evE T F t s)).fl fun b s => if b then r1 s else r2 s) Dn σ H) : tIfS (TT' T F c W t) (tS c W r1) (tS c W r2) Dn σ H := by
  obtain ⟨φ, Mo, s, rel, h⟩ := h
  refine tT_fl (r := fun s => asB (evE T F t s)) rel h fun b φ2 Mo2 s2 H2 P h2 => ?_
  cases b with
  | true => exact ⟨φ2, Mo2, s2, P.rel, h2.step P.fr⟩
  | false => exact ⟨φ2, Mo2, s2, P.rel, h2.step P.fr⟩
/-- while -/
theorem while_to {t : E} {rb : St → Fl} {σ : L2.St} {H : Hp} {Dn : Ends} (h : tS c W (fun s => whlL (fun s => asB (evE T F t s)) rb most s) Dn σ H) : tWhile (TT' T F c W t) (tS c W rb) Dn σ H := by
  obtain ⟨φ, Mo, s, rel, h⟩ := h
  refine ⟨fun m σ H => ∃ φ Mo s, RelE c φ Mo s σ H ∧ OutS c W φ Mo s H (whlL (fun s => asB (evE T F t s)) rb m s) Dn, ⟨most, φ, Mo, s, rel, h⟩, ?_⟩
  rintro m σ H ⟨φ, Mo, s, rel, h⟩
  cases m with
  | zero => exact h.elim
  | succ m =>
    have h : OutS c W φ Mo s H ((asB (evE T F t s)).fl fun b s => if b then (match rb s with
      | .nx s => whlL (fun s => asB (evE T F t s)) rb m s
      | .cnt s => whlL (fun s => asB (evE T F t s)) rb m s
      | .brk s => .nx s
      | r => r) else .nx s) Dn := h
    refine tT_fl (r := fun s => asB (evE T F t s)) rel h fun b φ2 Mo2 s2 H2 P h2 => ?_
    cases b with
    | false => exact h2 σ φ2 Mo2 H2 P.rel P.fr
    | true =>
      refine ⟨fun σ H => ∃ φ Mo s, RelE c φ Mo s σ H ∧ OutS c W φ Mo s H (whlL (fun s => asB (evE T F t s)) rb m s) Dn, fun σ' H' hN => ⟨m, Nat.lt_succ_self _, hN⟩, φ2, Mo2, s2, P.rel, ?_⟩
      have h2 : OutS c W φ Mo s H (match rb s2 with
        | .nx s => whlL (fun s => asB (evE T F t s)) rb m s
        | .cnt s => whlL (fun s => asB (evE T F t s)) rb m s
        | .brk s => .nx s
        | r => r) Dn := h2
      cases e : rb s2 with
      | nx s3 =>
        rw [e] at h2
        exact fun σ3 φ3 Mo3 H3 r f => ⟨φ3, Mo3, s3, r, h2.step (P.fr.trans f)⟩
      | cnt s3 =>
        rw [e] at h2
        exact fun σ3 φ3 Mo3 H3 r f => ⟨φ3, Mo3, s3, r, h2.step (P.fr.trans f)⟩
      | brk s3 =>
        rw [e] at h2
        exact fun σ3 φ3 Mo3 H3 r f => h2 σ3 φ3 Mo3 H3 r (P.fr.trans f)
      | ret d s3 =>
        rw [e] at h2
        exact h2.step P.fr
      | exc k fs s3 =>
        rw [e] at h2
        exact h2.step P.fr
      | stuck =>
        rw [e] at h2
        exact h2
end
end TR
end

section
set_option Elab.async false
set_option linter.all false
set_option maxRecDepth 100000
set_option autoImplicit false
/-! TrStm2: stores, returns, loops. -/
namespace TR
open PySem L2
section
variable {T : Tb} {F : Fi} {c : Cz} {W : Wx} {a i e : E} {ds : List D}
variable {σ : L2.St} {H : Hp} {Dn : Ends}
/-! ### name = e -/
theorem Fr.drop {φ φ' : Nm → Addr} {Mo Mo' Mo2 : Addr → Prop} {s s' : St} {H H' : Hp} (f : Fr φ Mo s H φ' Mo' s' H') (h : ∀ a, Mo2 a → Mo' a) (k : ∀ a, Mo a → Mo2 a) : Fr φ Mo s H φ' Mo2 s' H' :=
  ⟨f.imm, fun a q => f.new a (q.imp (h a) id), fun a q => ⟨k a q, (f.outer a q).2⟩, fun a q => f.fresh a (h a q), f.cell, f.len, f.dom, f.hid, f.slot, f.s0⟩
def φs (φ : Nm → Addr) (i : Nat) (p : Addr) (nm : Nm) : Addr := if nm = .slot i then p else φ nm
theorem φs_ne {φ : Nm → Addr} {i : Nat} {p : Addr} {nm : Nm} (h : nm ≠ .slot i) : φs φ i p nm = φ nm := if_neg h
theorem φs_eq {φ : Nm → Addr} {i : Nat} {p : Addr} : φs φ i p (.slot i) = p := if_pos rfl
/-- a new thing becomes a slot's own -/
theorem slot_new {φ : Nm → Addr} {Mo : Addr → Prop} {s : St} {d : D} {p : Addr} {i : Nat} (rel : RelE c φ Mo s σ H) (hp : Mo p) (t : temp d = true) (k : ContAt c φ (Ms φ Mo s) H s.sto.length (.slot 0) d p) :
    RelE c (φs φ i p) (fun x => Mo x ∧ x ≠ p) ⟨s.env.set i (some d), s.sto⟩ (σ.set i (some (.ref p))) H ∧
    (∀ a, Ms (φs φ i p) (fun x => Mo x ∧ x ≠ p) ⟨s.env.set i (some d), s.sto⟩ a → Ms φ Mo s a) ∧ (∀ n, φs φ i p (.cell n) = φ (.cell n)) := by
  have own' : ∀ {nm}, nm ≠ .slot i → own ⟨s.env.set i (some d), s.sto⟩ nm = own s nm := fun {nm} hn => by
    refine own_env fun j e => ?_
    rw [List.getElem?_set_ne]
    intro z
    subst z
    exact hn e
  have act : ∀ {nm x}, Act ⟨s.env.set i (some d), s.sto⟩ nm x → (nm = .slot i ∧ x = d) ∨ (nm ≠ .slot i ∧ Act s nm x) := fun {nm x} h => by
    by_cases hn : nm = .slot i
    · subst hn
      have e := slot_env h.1
      have hl : i < s.env.length := by
        have := (List.getElem?_eq_some_iff.mp e).1
        rwa [List.length_set] at this
      rw [show (s.env.set i (some d))[i]? = some (some d) from List.getElem?_set_self hl] at e
      cases e
      exact .inl ⟨rfl, rfl⟩
    · exact .inr ⟨hn, by rw [← own' hn]; exact h.1, h.2⟩
  have ms : ∀ a, Ms (φs φ i p) (fun x => Mo x ∧ x ≠ p) ⟨s.env.set i (some d), s.sto⟩ a → Ms φ Mo s a := fun a => by
    rintro (h | ⟨nm, x, h, e⟩)
    · exact .inl h.1
    · rcases act h with ⟨rfl, _⟩ | ⟨hn, h⟩
      · rw [φs_eq] at e
        subst e
        exact .inl hp
      · rw [φs_ne hn] at e
        exact .inr ⟨nm, x, h, e⟩
  have hc : ∀ n, φs φ i p (.cell n) = φ (.cell n) := fun n => φs_ne fun e => by cases e
  have mv : Mv φ (φs φ i p) (Ms φ Mo s) (Ms (φs φ i p) (fun x => Mo x ∧ x ≠ p) ⟨s.env.set i (some d), s.sto⟩) H H s.sto.length s.sto.length := mvM (fun a z => ms a z) (fun n _ => hc n) (Nat.le_refl _)
  refine ⟨⟨⟨?_, ?_, ?_, fun a h => rel.dom a h.1⟩, ?_, ?_⟩, ms, hc⟩
  · intro nm nm' x x' h h' e
    rcases act h with ⟨rfl, _⟩ | ⟨hn, h⟩ <;> rcases act h' with ⟨rfl, _⟩ | ⟨hn', h'⟩
    · rfl
    · rw [φs_eq, φs_ne hn'] at e
      exact absurd (by rw [← e]; exact hp) (rel.out _ _ h')
    · rw [φs_eq, φs_ne hn] at e
      exact absurd (by rw [e]; exact hp) (rel.out _ _ h)
    · rw [φs_ne hn, φs_ne hn'] at e
      exact rel.inj _ _ _ _ h h' e
  · intro nm x h z
    rcases act h with ⟨rfl, _⟩ | ⟨hn, h⟩
    · rw [φs_eq] at z
      exact z.2 rfl
    · rw [φs_ne hn] at z
      exact rel.out _ _ h z.1
  · intro nm x h
    rcases act h with ⟨rfl, rfl⟩ | ⟨hn, h⟩
    · rw [φs_eq]
      have k2 : ContAt c φ (Ms φ Mo s) H s.sto.length (.slot i) x p := by
        cases x with
        | olst ds => exact k
        | odct ds => exact k
        | oobj k0 fs =>
          obtain ⟨hk, nd, dx, us, e, r⟩ := k
          exact ⟨hk, nd, dx, us, e, repF_O (repO_F r)⟩
        | _ => cases t
      exact k2.mv mv (fun _ e => e) fun n k fs f d' e => by cases e
    · rw [φs_ne hn]
      exact (rel.cnt nm x h).mv mv (fun _ e => e) fun n k fs f d' _ _ _ _ => φs_ne fun e => by cases e
  · rw [List.length_set, List.length_set]
    exact rel.len
  · intro j x e
    have e : (s.env.set i (some d))[j]? = some (some x) := e
    by_cases hj : i = j
    · subst hj
      have hl : i < s.env.length := by
        have := (List.getElem?_eq_some_iff.mp e).1
        rwa [List.length_set] at this
      rw [List.getElem?_set_self hl] at e
      cases e
      refine ⟨.ref p, List.getElem?_set_self (by rw [rel.len]; exact hl), ?_⟩
      rw [if_pos (temp_owned t).1, φs_eq]
    · rw [List.getElem?_set_ne hj] at e
      obtain ⟨v, e1, e2⟩ := rel.slots j x e
      refine ⟨v, by rw [List.getElem?_set_ne hj]; exact e1, ?_⟩
      by_cases ho : owned x = true
      · rw [if_pos ho] at e2 ⊢
        rw [φs_ne fun e => hj (by cases e; rfl)]
        exact e2
      · rw [if_neg ho] at e2 ⊢
        exact Rep.mv mv _ _ e2
theorem slot_fr {φ φ0 : Nm → Addr} {Mo Mo0 : Addr → Prop} {s s0 : St} {H0 : Hp} {d : D} {p : Addr} {i : Nat} (f : Fr φ0 Mo0 s0 H0 φ Mo s H) (hfr : H0 p = none) (r0 : ∀ a, Mo0 a → H0 a ≠ none) (t : temp d = true) (hi0 : i ≠ 0)
    (ms : ∀ a, Ms (φs φ i p) (fun x => Mo x ∧ x ≠ p) ⟨s.env.set i (some d), s.sto⟩ a → Ms φ Mo s a) : Fr φ0 Mo0 s0 H0 (φs φ i p) (fun x => Mo x ∧ x ≠ p) ⟨s.env.set i (some d), s.sto⟩ H := by
  have own' : ∀ {nm}, nm ≠ .slot i → own ⟨s.env.set i (some d), s.sto⟩ nm = own s nm := fun {nm} hn => by
    refine own_env fun j e => ?_
    rw [List.getElem?_set_ne]
    intro z
    subst z
    exact hn e
  refine ⟨f.imm, fun a h => f.new a (ms a h), fun a h => ⟨⟨(f.outer a h).1, fun z => r0 a h (by rw [z]; exact hfr)⟩, (f.outer a h).2⟩, fun a h => f.fresh a h.1, fun n hn => ?_, f.len, f.dom, fun nm h => ?_, fun j x h => ?_, by rw [φs_ne fun e => hi0 (by cases e; rfl)]; exact f.s0⟩
  · rw [φs_ne fun e => by cases e]
    exact f.cell n hn
  · by_cases hn : nm = .slot i
    · subst hn
      have e := slot_env h
      have hl : i < s.env.length := by
        have := (List.getElem?_eq_some_iff.mp e).1
        rwa [List.length_set] at this
      rw [show (s.env.set i (some d))[i]? = some (some d) from List.getElem?_set_self hl] at e
      cases e
      cases t
    · rw [own' hn] at h
      rw [φs_ne hn]
      exact f.hid nm h
  · by_cases hj : j = i
    · subst hj
      rw [φs_eq]
      exact .inr hfr
    · have hn : Nm.slot j ≠ .slot i := fun e => hj (by cases e; rfl)
      rw [φs_ne hn]
      exact f.slot j x ⟨by rw [← own' hn]; exact h.1, h.2⟩
theorem tmpD_eq (d : D) : tmpD d = temp d := by cases d <;> rfl
theorem asgD_ne {s : St} {i : Nat} {d : D} (h : temp d = false) : asgD s i d = (esc s d).fl fun d s => .nx { s with env := s.env.set i (some d) } := by
  unfold asgD
  rw [tmpD_eq, h]
  rfl
theorem asgD_t {s : St} {i : Nat} {d : D} (h : temp d = true) : asgD s i d = if i = 0 then .stuck else .nx { s with env := s.env.set i (some d) } := by
  unfold asgD
  rw [tmpD_eq, h]
  rfl
/-- what a store does -/
theorem asg_ok {cl : Bool} {φ φ0 : Nm → Addr} {Mo Mo0 : Addr → Prop} {s s0 : St} {H0 : Hp} {d : D} {v : V} {i : Nat} (r0 : RelE c φ0 Mo0 s0 σ H0) (P : PostE c cl σ φ0 Mo0 s0 H0 φ Mo s H) (vr : VRep c φ Mo s H d v) (fr : freshV H0 d v)
    (h : OutS c W φ0 Mo0 s0 H0 (asgD s i d) Dn) : Dn.nx (σ.set i (some v)) H := by
  cases t : temp d with
  | true =>
    rw [asgD_t t] at h
    by_cases hi : i = 0
    · rw [if_pos hi] at h
      exact h.elim
    · rw [if_neg hi] at h
      obtain ⟨p, rfl, hp, k⟩ := vr.tmp t
      obtain ⟨r1, ms, _⟩ := slot_new (i := i) P.rel hp t k
      exact h _ _ _ _ r1 (slot_fr P.fr (fr t p rfl) r0.dom t hi ms)
  | false =>
    rw [asgD_ne t] at h
    cases e : esc s d with
    | stuck =>
      rw [e] at h
      exact h.elim
    | exc k fs s2 => exact absurd e esc_noexc
    | ok x s2 =>
      rw [e] at h
      obtain ⟨Mo2, P2, r2, ho, _, _⟩ := esc_ok P r0.dom vr fr e
      obtain ⟨r3, f3⟩ := P2.rel.set1 i r2
      exact h _ _ _ _ r3 (P2.fr.trans f3)
theorem asg_to {i : Nat} (h : tS c W (fun s => (evE T F e s).fl fun d s => asgD s i d) Dn σ H) : tAsg (TE' T F c W e) (gName i) Dn σ H := by
  obtain ⟨φ, Mo, s, rel, h⟩ := h
  exact tE_fl rel h fun d v φ2 Mo2 s2 H2 P vr fr h2 => asg_ok rel P vr fr h2
theorem fr_asgT {is : List Nat} (h : tS c W (fun s => (evE T F e s).fl fun d s => (match bindT (.many is) d s with
    | some s => .nx s
    | none => .stuck)) Dn σ H) : tAsg (TE' T F c W e) (gT c.K (.many is)) Dn σ H := by
  obtain ⟨φ, Mo, s, rel, h⟩ := h
  refine tE_fl rel h fun d v φ2 Mo2 s2 H2 P vr fr h2 => ?_
  cases b : bindT (.many is) d s2 with
  | none =>
    rw [b] at h2
    exact h2.elim
  | some s3 =>
    rw [b] at h2
    have hr : Rep c φ2 (Ms φ2 Mo2 s2) H2 s2.sto.length d v := by
      unfold bindT at b
      cases d <;> first | (cases b; done) | exact vr
    exact bind_ok P.rel hr b fun σ' r f _ => h2 σ' φ2 Mo2 H2 r (P.fr.trans f)
theorem expr_to (h : tS c W (fun s => (evE T F e s).fl fun _ s => .nx s) Dn σ H) : tDrop (TE' T F c W e) Dn σ H := by
  obtain ⟨φ, Mo, s, rel, h⟩ := h
  exact tE_fl rel h fun d v φ2 Mo2 s2 H2 P vr fr h2 => h2 σ φ2 Mo2 H2 P.rel P.fr
/-- a slot's own thing let go as the value -/
theorem ret_ok {cl : Bool} {φ φ0 : Nm → Addr} {Mo Mo0 : Addr → Prop} {s s0 : St} {H0 : Hp} {d : D} {v : V} (P : PostE c cl σ φ0 Mo0 s0 H0 φ Mo s H) (vr : VRep c φ Mo s H d v) (fr : freshV H0 d v)
    (h : OutS c W φ0 Mo0 s0 H0 (retD s d) Dn) : Dn.rt v H := by
  by_cases hs : ∃ i, d = .sref i
  · obtain ⟨i, rfl⟩ := hs
    have h : OutS c W φ0 Mo0 s0 H0 (match own s (.slot i) with
      | some .hid => .stuck
      | some c => .ret c { s with env := s.env.set i none }
      | none => .stuck) Dn := h
    cases q : own s (.slot i) with
    | none =>
      rw [q] at h
      exact h.elim
    | some x =>
      rw [q] at h
      have hx : x ≠ .hid := fun z => by
        subst z
        exact h
      have h : OutS c W φ0 Mo0 s0 H0 (.ret x { s with env := s.env.set i none }) Dn := by
        cases x <;> first | exact absurd rfl hx | exact h
      have act : Act s (.slot i) x := ⟨q, hx⟩
      have hv : v = .ref (φ (.slot i)) := vr
      have tx : temp x = true := by
        have := own_owned q
        cases x <;> first | rfl | exact absurd rfl hx | cases this
      obtain ⟨r1, f1⟩ := P.rel.clr i
      have hi : i < s.env.length := (List.getElem?_eq_some_iff.mp (slot_env q)).1
      have noact : ∀ y, ¬ Act { s with env := s.env.set i none } (.slot i) y := fun y hy => by
        have e : (s.env.set i none)[i]? = some (some y) := slot_env hy.1
        rw [List.getElem?_set_self hi] at e
        cases e
      have aback : ∀ nm y, Act { s with env := s.env.set i none } nm y → nm ≠ .slot i ∧ Act s nm y := fun nm y hy => by
        have hn : nm ≠ .slot i := fun z => by
          subst z
          exact noact y hy
        refine ⟨hn, ?_, hy.2⟩
        have : own { s with env := s.env.set i none } nm = own s nm := own_env fun j e => by
          rw [List.getElem?_set_ne]
          intro z
          subst z
          exact hn e
        rw [← this]
        exact hy.1
      -- the thing counts as the caller's from here
      have ms : ∀ a, Ms φ (fun a => Mo a ∨ a = φ (.slot i)) { s with env := s.env.set i none } a → Ms φ Mo s a := fun a => by
        rintro ((h | h) | ⟨nm, y, h, e⟩)
        · exact .inl h
        · exact .inr ⟨_, x, act, h.symm⟩
        · exact .inr ⟨nm, y, (aback nm y h).2, e⟩
      have mv : Mv φ φ (Ms φ Mo s) (Ms φ (fun a => Mo a ∨ a = φ (.slot i)) { s with env := s.env.set i none }) H H s.sto.length s.sto.length := mvM (fun a z => ms a z) (fun _ _ => rfl) (Nat.le_refl _)
      have r2 : Rel c φ (fun a => Mo a ∨ a = φ (.slot i)) { s with env := s.env.set i none } H := by
        refine ⟨fun nm nm' y y' h1 h2 e => P.rel.inj nm nm' y y' (aback _ _ h1).2 (aback _ _ h2).2 e, fun nm y h1 z => ?_, fun nm y h1 => (P.rel.cnt nm y (aback _ _ h1).2).mv mv (fun _ e => e) fun _ _ _ _ _ _ _ _ _ => rfl, fun a z => ?_⟩
        · rcases z with z | z
          · exact P.rel.out nm y (aback _ _ h1).2 z
          · exact (aback _ _ h1).1 (P.rel.inj nm (.slot i) y x (aback _ _ h1).2 act z)
        · rcases z with z | z
          · exact P.rel.dom a z
          · rw [z]
            exact P.rel.domM (.inr ⟨_, x, act, rfl⟩)
      have ct := (P.rel.cnt _ x act).mv mv (fun _ e => e) fun n k fs f d' e => by cases e
      have ct0 : ContAt c φ (Ms φ (fun a => Mo a ∨ a = φ (.slot i)) { s with env := s.env.set i none }) H s.sto.length (.slot 0) x (φ (.slot i)) := by
        cases x with
        | olst ds => exact ct
        | odct ds => exact ct
        | oobj k0 fs =>
          obtain ⟨hk, nd, dx, us, e, r⟩ := ct
          exact ⟨hk, nd, dx, us, e, repF_O (repO_F r)⟩
        | _ => cases tx
      have fR : FrR φ0 Mo0 s0 H0 φ (fun a => Mo a ∨ a = φ (.slot i)) { s with env := s.env.set i none } H := by
        refine ⟨P.fr.imm, fun a h => P.fr.new a (ms a h), fun a h => ⟨.inl (P.fr.outer a h).1, (P.fr.outer a h).2⟩, fun a h => ?_, P.fr.cell, P.fr.len, P.fr.dom, fun nm h => ?_, P.fr.s0⟩
        · rcases h with h | h
          · exact (P.fr.fresh a h).imp id .inl
          · subst h
            exact .inr ((P.fr.sl ⟨i, x, act, rfl⟩).elim .inr .inl)
        · refine P.fr.hid nm ?_
          have hn : nm ≠ .slot i := fun z => by
            subst z
            have e : (s.env.set i none)[i]? = some (some .hid) := slot_env h
            rw [List.getElem?_set_self hi] at e
            cases e
          have : own { s with env := s.env.set i none } nm = own s nm := own_env fun j e => by
            rw [List.getElem?_set_ne]
            intro z
            subst z
            exact hn e
          rw [← this]
          exact h
      refine h v φ _ H (temp_nref tx) r2 fR ?_ fun _ a e => ?_
      · subst hv
        cases x <;> first | (cases tx; done) | exact ⟨_, rfl, .inr rfl, ct0⟩
      · rw [hv] at e
        cases e
        exact (P.fr.sl ⟨i, x, act, rfl⟩).elim .inr .inl
  · have go : nref d → OutS c W φ0 Mo0 s0 H0 (.ret d s) Dn → Dn.rt v H := fun nr h => h v φ Mo H nr P.rel.toRel P.fr.r vr fr.r
    cases d with
    | sref i => exact absurd ⟨i, rfl⟩ hs
    | fref n f => exact h.elim
    | hid => exact h.elim
    | dead => exact h.elim
    | _ => exact go trivial h
theorem ret_to (h : tS c W (fun s => (evE T F e s).fl fun d s => retD s d) Dn σ H) : tRet (TE' T F c W e) Dn σ H := by
  obtain ⟨φ, Mo, s, rel, h⟩ := h
  exact tE_fl rel h fun d v φ2 Mo2 s2 H2 P vr fr h2 => ret_ok P vr fr h2
end
end TR
end

section
set_option Elab.async false
set_option linter.all false
set_option maxRecDepth 100000
set_option autoImplicit false
/-! TrStm3: for loops. -/
namespace TR
open PySem L2
section
variable {c : Cz} {φ φ2 : Nm → Addr} {Mo Mo2 : Addr → Prop} {s s1 s2 s3 : St} {σ σ2 : L2.St} {H H2 : Hp} {ns : List Nm} {ps : Option (Nm × D)} {nm : Nm} {ds : List D}
/-- .. shown again behind a return -/
theorem unhideR_ok (r : RelE c φ Mo s σ H) (e : hide s ns = some (s1, ps)) (f : FrR φ (MoH φ Mo ps) s1 H φ2 Mo2 s2 H2) (r2 : Rel c φ2 Mo2 s2 H2) (e2 : unhide s2 ps = some s3) :
    Rel c φ2 (MoU φ ps Mo2) s3 H2 ∧ FrR φ Mo s H φ2 (MoU φ ps Mo2) s3 H2 ∧ (∀ a, Ms φ2 (MoU φ ps Mo2) s3 a ↔ Ms φ2 Mo2 s2 a) ∧ s3.sto.length = s2.sto.length := by
  have hM1 := ms_hide (φ := φ) (Mo := Mo) e
  rcases hide_is e with ⟨_, e3, e4⟩ | ⟨nm, ds, _, h, e3, e4⟩
  · subst e3 e4
    rcases unhide_is e2 with ⟨_, rfl⟩ | ⟨_, _, e5, _⟩
    · have q1 : MoH φ Mo none = Mo := funext fun a => propext moH_none
      have q2 : MoU φ none Mo2 = Mo2 := funext fun a => propext ⟨fun h => h.1, fun h => ⟨h, fun _ _ e => (by cases e)⟩⟩
      rw [q1] at f
      rw [q2]
      exact ⟨r2, f, fun _ => Iff.rfl, rfl⟩
    · cases e5
  · subst e3 e4
    rcases unhide_is e2 with ⟨e5, _⟩ | ⟨nm', d, e5, h2, e6⟩
    · cases e5
    cases e5
    subst e6
    have po := putOk (d := .hid) h rfl rfl
    have po2 := putOk (d := .olst ds) h2 rfl rfl
    have act : Act s nm (.olst ds) := ⟨h, by intro z; cases z⟩
    have hφ : φ2 nm = φ nm := (f.hid nm h2).2
    have hMo2 : Mo2 (φ nm) := (f.outer _ (.inr ⟨nm, _, rfl, rfl⟩)).1
    have uM : ∀ {a}, MoU φ (some (nm, D.olst ds)) Mo2 a ↔ Mo2 a ∧ a ≠ φ nm := ⟨fun h => ⟨h.1, h.2 nm _ rfl⟩, fun h => ⟨h.1, fun _ _ e => (by cases e; exact h.2)⟩⟩
    have nact : ∀ nm' x, Act s2 nm' x → φ2 nm' ≠ φ2 nm := fun nm' x hx q => r2.out nm' x hx (by rw [q, hφ]; exact hMo2)
    have hM2 : ∀ a, Ms φ2 (MoU φ (some (nm, .olst ds)) Mo2) (putAt s2 nm (.olst ds)) a ↔ Ms φ2 Mo2 s2 a := fun a => by
      constructor
      · rintro (q | ⟨nm', x, hx, q⟩)
        · exact .inl q.1
        · by_cases hn : nm' = nm
          · subst hn
            exact .inl (by rw [← q, hφ]; exact hMo2)
          · obtain ⟨y, hy⟩ := (po2.other rfl hn).mpr ⟨x, hx⟩
            exact .inr ⟨nm', y, hy, q⟩
      · rintro (q | ⟨nm', x, hx, q⟩)
        · by_cases ha : a = φ nm
          · exact .inr ⟨nm, _, ⟨po2.here, by intro z; cases z⟩, by rw [hφ, ha]⟩
          · exact .inl (uM.mpr ⟨q, ha⟩)
        · have hn : nm' ≠ nm := fun z => by
            subst z
            have := hx.1
            rw [h2] at this
            exact hx.2 (Option.some.inj this).symm
          obtain ⟨y, hy⟩ := (po2.other rfl hn).mp ⟨x, hx⟩
          exact .inr ⟨nm', y, hy, q⟩
    obtain ⟨vs, c1, c2⟩ := r.cnt nm _ act
    have fMv : Mv φ φ2 (Ms φ Mo s) (Ms φ2 Mo2 s2) H H2 s.sto.length s2.sto.length := ⟨fun a o e hn => ⟨f.imm a o e fun z => hn ((hM1 a).mp z), fun z => (f.new a z).elim (fun z => hn ((hM1 a).mp z)) fun q => by rw [e] at q; cases q⟩, fun n hn => f.cell n (by rw [po.sto]; exact hn), by have := f.len; rw [po.sto] at this; exact this⟩
    have cn : ContAt c φ2 (Ms φ2 Mo2 s2) H2 s2.sto.length nm (.olst ds) (φ2 nm) := ⟨vs, by rw [hφ]; exact (f.outer _ (.inr ⟨nm, _, rfl, rfl⟩)).2 _ c1, RepL.mv fMv _ _ c2⟩
    have r3 := r2.next (Mo' := MoU φ (some (nm, .olst ds)) Mo2) (H' := H2) po2 rfl rfl (.inl (by rw [hφ]; exact hMo2)) hM2 (fun _ _ => rfl) (fun _ => ⟨cn, fun z => (uM.mp z).2 hφ⟩) (fun a h => .inl h.1) (fun a h => r2.dom a h.1) fun nm' x hx hn => nact nm' x hx
    refine ⟨r3, ⟨fun a o ea hn => f.imm a o ea fun z => hn ((hM1 a).mp z), fun a ha => (f.new a ((hM2 a).mp ha)).imp (hM1 a).mp id, fun a ha => ?_, fun a ha => ?_, fun n hn => f.cell n (by rw [po.sto]; exact hn), ?_, f.dom, fun nm' hh => ?_, f.s0⟩, hM2, po2.sto⟩
    · refine ⟨uM.mpr ⟨(f.outer a (.inl ha)).1, fun z => r.out nm _ act (by rw [← z]; exact ha)⟩, (f.outer a (.inl ha)).2⟩
    · obtain ⟨h1, h2⟩ := uM.mp ha
      rcases f.fresh a h1 with q | q | ⟨i, x, hx, q⟩
      · rcases moH_some.mp q with q | q
        · exact .inl q
        · exact absurd q h2
      · exact .inr (.inl q)
      · obtain ⟨_, y, hy⟩ := act_hid po hx
        exact .inr (.inr ⟨i, y, hy, q⟩)
    · rw [po2.sto]
      have := f.len
      rw [po.sto] at this
      exact this
    · have k := f.hid nm' (po2.hidEq (by intro z; cases z) hh)
      refine ⟨?_, k.2⟩
      have hn : nm' ≠ nm := fun z => by
        subst z
        rw [po2.here] at hh
        cases hh
      by_cases hc : ∃ n f, nm = .fld n f ∧ nm' = .cell n
      · obtain ⟨n, f, e1, e2⟩ := hc
        obtain ⟨k', fs, q1, q2, _⟩ := po.cell n f e1
        subst e2
        rw [q2] at k
        cases k.1
      · rw [← po.same nm' hn fun n f h2 h3 => hc ⟨n, f, h2, h3⟩]
        exact k.1
end
section
variable {T : Tb} {F : Fi} {c : Cz} {W : Wx} {a : E} {k : Sk} {tg : Tg} {rb : St → Fl}
theorem for_to {σ : L2.St} {H0 : Hp} {Dn : Ends} (h : tS c W (fun s => (evB T F a s).fl fun ds s => (match srcD k s ds with
    | none => .stuck
    | some items => (match hide s (nms ds) with
      | none => .stuck
      | some (s1, ps) => Fl.show ps (forL (bindT tg) rb items s1)))) Dn σ H0) : tFor (tI c W (a.calm T) k (evB T F a)) (gT c.K tg) (tS c W rb) Dn σ H0 := by
  obtain ⟨φ, Mo, s, rel, h⟩ := h
  refine ⟨φ, Mo, s, rel, ?_⟩
  cases e : evB T F a s with
  | stuck =>
    simp only [e] at h
    exact h.elim
  | exc k fs s' =>
    simp only [e] at h
    exact fun cls dx φ' Mo' H' P x => h σ cls dx φ' Mo' H' P.rel P.fr x
  | ok ds s' =>
    simp only [e] at h
    have h : OutS c W φ Mo s H0 (match srcD k s' ds with
      | none => .stuck
      | some items => (match hide s' (nms ds) with
        | none => .stuck
        | some (s1, ps) => Fl.show ps (forL (bindT tg) rb items s1))) Dn := h
    cases e1 : srcD k s' ds with
    | none =>
      rw [e1] at h
      exact h.elim
    | some items =>
    rw [e1] at h
    cases e2 : hide s' (nms ds) with
    | none =>
      simp only [e2] at h
      exact h.elim
    | some sp =>
    obtain ⟨s1, ps⟩ := sp
    simp only [e2] at h
    refine ⟨items, s1, ps, e1, e2, fun J φ1 Mo1 H1 P1 src => ?_⟩
    obtain ⟨G, Y, w, prop⟩ := src
    have r1h := hide_ok P1.rel e2
    -- the end of a loop that was not returned from
    have close : ∀ {s2 : St} {σ2 : L2.St} {φ2 : Nm → Addr} {Mo2 : Addr → Prop} {H2 : Hp}, OutS c W φ Mo s H0 (Fl.show ps (.nx s2)) Dn → RelE c φ2 Mo2 s2 σ2 H2 → Fr φ1 (MoH φ1 Mo1 ps) s1 H1 φ2 Mo2 s2 H2 → Dn.nx σ2 H2 := fun {s2 σ2 φ2 Mo2 H2} h r2 f => by
      have h : OutS c W φ Mo s H0 (match unhide s2 ps with
        | some s => .nx s
        | none => .stuck) Dn := h
      cases u : unhide s2 ps with
      | none =>
        rw [u] at h
        exact h.elim
      | some s3 =>
        rw [u] at h
        obtain ⟨r3, f3, _, _⟩ := unhide_ok P1.rel e2 f r2 u
        exact h _ _ _ _ r3 (P1.fr.trans f3)
    refine for_it w (fun i σ H => ∃ φi Moi si, RelE c φi Moi si σ H ∧ Fr φ1 (MoH φ1 Mo1 ps) s1 H1 φi Moi si H ∧ OutS c W φ Mo s H0 (Fl.show ps (forL (bindT tg) rb (items.drop i) si)) Dn) ⟨φ1, _, s1, r1h, Fr.refl, h⟩ ?_ ?_ ?_
    · rintro i σ H hi ⟨φi, Moi, si, r, f, _⟩
      exact (prop _ _ _ _ r.toRel f).1
    · rintro i x σ2 H H' hi ⟨φi, Moi, si, r, f, ho⟩ y
      have hit : items.drop i = items[i] :: items.drop (i + 1) := List.drop_eq_getElem_cons hi
      rw [hit] at ho
      obtain ⟨g1, rx⟩ := (prop _ _ _ _ r.toRel f).2 i x H' items[i] hi y (List.getElem?_eq_getElem hi)
      have ho : OutS c W φ Mo s H0 (Fl.show ps (match bindT tg items[i] si with
        | none => .stuck
        | some s => (match rb s with
          | .nx s => forL (bindT tg) rb (items.drop (i + 1)) s
          | .cnt s => forL (bindT tg) rb (items.drop (i + 1)) s
          | .brk s => .nx s
          | r => r))) Dn := ho
      cases b1 : bindT tg items[i] si with
      | none =>
        rw [b1] at ho
        exact ho.elim
      | some sb =>
      rw [b1] at ho
      dsimp only at ho
      have rg := r.grow g1
      refine bind_ok rg rx b1 fun σ3 r3 f3 _ => ⟨φi, Moi, sb, r3, ?_⟩
      have fB : Fr φ1 (MoH φ1 Mo1 ps) s1 H1 φi Moi sb H' := (f.trans g1.fr).trans f3
      cases eb : rb sb with
      | stuck =>
        rw [eb] at ho
        exact ho.elim
      | nx s4 =>
        rw [eb] at ho
        exact fun σ4 φ4 Mo4 H4 r4 f4 => ⟨φ4, Mo4, s4, r4, fB.trans f4, ho⟩
      | cnt s4 =>
        rw [eb] at ho
        exact fun σ4 φ4 Mo4 H4 r4 f4 => ⟨φ4, Mo4, s4, r4, fB.trans f4, ho⟩
      | brk s4 =>
        rw [eb] at ho
        exact fun σ4 φ4 Mo4 H4 r4 f4 => close ho r4 (fB.trans f4)
      | ret d s4 =>
        rw [eb] at ho
        have ho : OutS c W φ Mo s H0 (match unhide s4 ps with
          | some s => .ret d s
          | none => .stuck) Dn := ho
        cases u : unhide s4 ps with
        | none =>
          rw [u] at ho
          exact ho.elim
        | some s5 =>
          rw [u] at ho
          intro v φ4 Mo4 H4 nr r4 f4 vr fv
          obtain ⟨r5, f5, hM5, hs5⟩ := unhideR_ok P1.rel e2 (fB.transR f4) r4 u
          have mv : Mv φ4 φ4 (Ms φ4 Mo4 s4) (Ms φ4 (MoU φ1 ps Mo4) s5) H4 H4 s4.sto.length s5.sto.length := mvM (fun a z => (hM5 a).mp z) (fun _ _ => rfl) (by rw [hs5]; exact Nat.le_refl _)
          have fv1 : freshR φ1 s1 H1 d v := fv.back fB
          refine ho v φ4 _ H4 nr r5 (P1.fr.transR f5) ?_ ?_
          · have nhid : ∀ ad, temp d = true → v = .ref ad → ∀ nm x, ps = some (nm, x) → ad ≠ φ1 nm := fun ad t ev nm x ep z => by
              have mo : MoH φ1 Mo1 ps (φ1 nm) := .inr ⟨nm, x, ep, rfl⟩
              rcases fv1 t ad ev with q | ⟨j, y, hy, q⟩
              · exact r1h.dom _ mo (by rw [← z]; exact q)
              · exact r1h.out _ y hy (by rw [q, z]; exact mo)
            cases d with
            | olst ds =>
              obtain ⟨ad, ev, hm, kk⟩ := vr
              exact ⟨ad, ev, ⟨hm, fun nm x ep => nhid ad rfl ev nm x ep⟩, kk.mv mv (fun _ e => e) fun n k fs f d' e => by cases e⟩
            | odct ds =>
              obtain ⟨ad, ev, hm, kk⟩ := vr
              exact ⟨ad, ev, ⟨hm, fun nm x ep => nhid ad rfl ev nm x ep⟩, kk.mv mv (fun _ e => e) fun n k fs f d' e => by cases e⟩
            | oobj _ ds =>
              obtain ⟨ad, ev, hm, kk⟩ := vr
              exact ⟨ad, ev, ⟨hm, fun nm x ep => nhid ad rfl ev nm x ep⟩, kk.mv mv (fun _ e => e) fun n k fs f d' e => by cases e⟩
            | sref i => exact nr.elim
            | fref n f => exact nr.elim
            | hid => exact vr
            | dead => exact vr
            | non => exact vr
            | bl b => exact vr
            | int b => exact vr
            | exc k fs => exact Rep.mv mv _ _ vr
            | str z => exact vr
            | tup ds => exact Rep.mv mv _ _ vr
            | lst ds => exact Rep.mv mv _ _ vr
            | dct ds => exact Rep.mv mv _ _ vr
            | obj k ds => exact Rep.mv mv _ _ vr
            | loc n => exact Rep.mv mv _ _ vr
            | scr ns => exact Rep.mv mv _ _ vr
          · intro t ad ev
            rcases fv1 t ad ev with q | ⟨j, y, hy, q⟩
            · exact .inl (none_back P1.fr.dom q)
            · have hs : ∃ z, Act s' (.slot j) z := by
                rcases hide_is e2 with ⟨_, rfl, rfl⟩ | ⟨nm, ds, _, hh, rfl, rfl⟩
                · exact ⟨y, hy⟩
                · exact (act_hid (putOk hh rfl rfl) hy).2
              obtain ⟨z, hz⟩ := hs
              exact (P1.fr.sl ⟨j, z, hz, q⟩).elim .inr .inl
      | exc kx fs s4 =>
        rw [eb] at ho
        have ho : OutS c W φ Mo s H0 (match unhide s4 ps with
          | some s => .exc kx fs s
          | none => .stuck) Dn := ho
        cases u : unhide s4 ps with
        | none =>
          rw [u] at ho
          exact ho.elim
        | some s5 =>
          rw [u] at ho
          intro σ4 cls dx φ4 Mo4 H4 r4 f4 x4
          obtain ⟨r5, f5, hM5, hs5⟩ := unhide_ok P1.rel e2 (fB.trans f4) r4 u
          exact ho σ4 cls dx φ4 _ H4 r5 (P1.fr.trans f5) (x4.mv (mvM (fun a z => (hM5 a).mp z) (fun _ _ => rfl) (by rw [hs5]; exact Nat.le_refl _)))
    · rintro σ2 H ⟨φi, Moi, si, r, f, ho⟩
      rw [List.drop_length] at ho
      exact close ho r f
end
end TR
end

section
set_option Elab.async false
set_option linter.all false
set_option maxRecDepth 100000
set_option autoImplicit false
/-! TrStm4: x[i] = e. -/
namespace TR
open PySem L2
section
variable {T : Tb} {F : Fi} {c : Cz} {W : Wx} {a i e : E}
theorem repK_any {φ : Nm → Addr} {M : Addr → Prop} {H : Hp} {L : Nat} {z : Tx} : ∀ {kvs : List (Tx × D)} {us : List (Key × V)}, RepK c φ M H L kvs us → (us.any fun kv => decide (kv.1 = Sum.inr (tx z))) = kvs.any fun p => p.1 == z
  | [], us, r => by
    rw [show us = [] from r]
    rfl
  | (g, d0) :: r, us, h => by
    obtain ⟨v0, w, ws, rfl, _, t⟩ := h
    rw [List.any_cons, List.any_cons, repK_any t]
    congr 1
    by_cases hg : g = z
    · subst hg
      simp
    · have h1 : ¬ (Sum.inr (tx g) : Key) = Sum.inr (tx z) := fun e => hg (tx_inj (Sum.inr.inj e))
      rw [decide_eq_false h1]
      simpa using fun e => hg e
theorem repK_map {φ : Nm → Addr} {M : Addr → Prop} {H : Hp} {L : Nat} {z : Tx} {d : D} {v : V} (hr : Rep c φ M H L d v) : ∀ {kvs : List (Tx × D)} {us : List (Key × V)}, RepK c φ M H L kvs us →
    RepK c φ M H L (kvs.map fun p => if p.1 = z then (p.1, d) else p) (us.map fun kv => if kv.1 = Sum.inr (tx z) then (kv.1, v) else kv)
  | [], us, r => by
    rw [show us = [] from r]
    rfl
  | (g, d0) :: r, us, h => by
    obtain ⟨hk, w, ws, rfl, r0, t⟩ := h
    rw [List.map_cons, List.map_cons]
    by_cases hg : g = z
    · subst hg
      rw [if_pos rfl, if_pos rfl]
      exact ⟨hk, v, _, rfl, hr, repK_map hr t⟩
    · have h1 : ¬ (Sum.inr (tx g) : Key) = Sum.inr (tx z) := fun e => hg (tx_inj (Sum.inr.inj e))
      rw [if_neg hg, if_neg h1]
      exact ⟨hk, w, _, rfl, r0, repK_map hr t⟩
theorem repK_app {φ : Nm → Addr} {M : Addr → Prop} {H : Hp} {L : Nat} {z : Tx} {d : D} {v : V} (hz : okT z) (hr : Rep c φ M H L d v) : ∀ {kvs : List (Tx × D)} {us : List (Key × V)}, RepK c φ M H L kvs us → RepK c φ M H L (kvs ++ [(z, d)]) (us ++ [(Sum.inr (tx z), v)])
  | [], us, r => by
    rw [show us = [] from r]
    exact ⟨hz, v, [], rfl, hr, rfl⟩
  | (g, d0) :: r, us, h => by
    obtain ⟨hk, w, ws, rfl, r0, t⟩ := h
    exact ⟨hk, w, _, rfl, r0, repK_app hz hr t⟩
theorem repK_put {φ : Nm → Addr} {M : Addr → Prop} {H : Hp} {L : Nat} {z : Tx} {d : D} {v : V} (hz : okT z) (hr : Rep c φ M H L d v) {kvs : List (Tx × D)} {us : List (Key × V)} (h : RepK c φ M H L kvs us) : RepK c φ M H L (dput z d kvs) (putK us (.inr (tx z)) v) := by
  unfold dput putK
  rw [repK_any h]
  by_cases q : (kvs.any fun p => p.1 == z) = true
  · rw [if_pos q, if_pos q]
    exact repK_map hr h
  · rw [if_neg q, if_neg q]
    exact repK_app hz hr h
theorem repK_len {φ : Nm → Addr} {M : Addr → Prop} {H : Hp} {L : Nat} : ∀ {kvs : List (Tx × D)} {us : List (Key × V)}, RepK c φ M H L kvs us → us.length = kvs.length
  | [], us, r => by
    rw [show us = [] from r]
    rfl
  | (g, d0) :: r, us, h => by
    obtain ⟨hk, w, ws, rfl, r0, t⟩ := h
    rw [List.length_cons, List.length_cons, repK_len t]
def rSetB : TSet := fun o i v H Q => rSetL o i v H Q ∨ rSetD o i v H Q
theorem set_both {X : Cx} (hu : X.A.units + 1 < cLine) : PSet X rSetB := by
  intro pins s σ H o i v ov iv u Q I ro ri rv h
  rcases h with h | h
  · exact set_list pins s σ H o i v ov iv u Q I ro ri rv h
  · exact set_dict hu pins s σ H o i v ov iv u Q I ro ri rv h
theorem setIx_ok {σ : L2.St} {φ φ0 : Nm → Addr} {Mo Mo0 : Addr → Prop} {s s0 : St} {H H0 : Hp} {x y d : D} {xv yv v : V} {Dn : Ends} (rel : RelE c φ Mo s σ H) (f : Fr φ0 Mo0 s0 H0 φ Mo s H) (vx : VRep c φ Mo s H x xv) (vy : VRep c φ Mo s H y yv) (r : Rep c φ (Ms φ Mo s) H s.sto.length d v)
    (h : OutS c W φ0 Mo0 s0 H0 (setIxD s x y d) Dn) : rSetB xv yv v H fun H4 => Dn.nx σ H4 := by
  unfold setIxD at h
  cases hn : nmOf x with
  | none =>
    simp only [hn] at h
    exact h.elim
  | some nm =>
    simp only [hn] at h
    have ex := vref rel.toRel hn vx
    split at h
    · rename_i xs k e1
      split at h
      · rename_i j e2
        have yk : yv = .int k := vy
        obtain ⟨ws, h1, h2⟩ := lcur (PostE.refl (cl := true) rel) e1
        have P := lput (PostE.refl (cl := true) rel) e1 (RepL.set j h2 r)
        refine .inl ⟨φ nm, ws, k, j, ex, yk, h1, ?_, h _ _ _ _ P.rel (f.trans P.fr)⟩
        rw [h2.length]
        exact e2
      · exact h.elim
    · rename_i kvs k e1
      split at h
      · rename_i hl
        obtain ⟨rfl, hk⟩ := vy
        have act : Act s nm (.odct kvs) := ⟨e1, by intro z; cases z⟩
        obtain ⟨us, h1, h2⟩ := rel.cnt nm _ act
        have po := putOk (d := .odct (dput k d kvs)) e1 rfl rfl
        have mem : Ms φ Mo s (φ nm) := .inr ⟨nm, _, act, rfl⟩
        have P := rel.put (o := .dK (putK us (.inr (tx k)) v)) po e1 rfl (by intro z; cases z) rfl (by intro z; cases z) ⟨_, upd_same, RepK.mv (mvput mem) _ _ (repK_put hk r h2)⟩ (putAt_env e1)
        refine .inr ⟨φ nm, _, ex, .inl ⟨us, .inr (tx k), h1, rfl, lim_lt (by rw [repK_len h2]; exact hl), rfl⟩, h _ _ _ _ P.rel (f.trans P.fr)⟩
      · exact h.elim
    · exact h.elim
theorem setIx_to {σ : L2.St} {H0 : Hp} {Dn : Ends} (h : tS c W (fun s => (evE T F e s).fl fun d s => (esc s d).fl fun d s => (evE T F a s).fl fun x s => if isF x && !i.calm T then .stuck else (evE T F i s).fl fun y s => setIxD s x y d) Dn σ H0) :
    tAsg (TE' T F c W e) (gSub (TE' T F c W a) (TE' T F c W i) rSetB) Dn σ H0 := by
  obtain ⟨φ, Mo, s, rel, h⟩ := h
  refine tE_fl rel h fun d v φ1 Mo1 s1 H1 P1 v1 f1 h1 => ?_
  cases es : esc s1 d with
  | stuck =>
    rw [es] at h1
    exact h1.elim
  | exc k fs s2 => exact absurd es esc_noexc
  | ok d2 s2 =>
  rw [es] at h1
  obtain ⟨Mo2, P2, r2, ho, _, _⟩ := esc_ok P1 rel.dom v1 f1 es
  have h2 : OutS c W φ1 Mo2 s2 H1 ((evE T F a s2).fl fun x s => if isF x && !i.calm T then .stuck else (evE T F i s).fl fun y s => setIxD s x y d2) Dn := OutS.step h1 P2.fr
  show TE' T F c W a σ H1 fun o H2 => TE' T F c W i σ H2 fun j H3 => rSetB o j v H3 fun H4 => Dn.nx σ H4
  refine tE_fl P2.rel h2 fun x xv φ3 Mo3 s3 H3 P3 v3 f3 h3 => ?_
  have hq : (isF x && !i.calm T) = false ∧ OutS c W φ1 Mo2 s2 H1 ((evE T F i s3).fl fun y s => setIxD s x y d2) Dn := by
    cases q : (isF x && !i.calm T) with
    | true =>
      rw [q] at h3
      exact h3.elim
    | false =>
      rw [q] at h3
      exact ⟨rfl, h3⟩
  obtain ⟨hf, h3⟩ := hq
  refine tE_fl P3.rel (h3.step P3.fr) fun y yv φ4 Mo4 s4 H4 P4 v4 f4 h4 => ?_
  exact setIx_ok P4.rel P4.fr (P4.vrep (isF_calm hf) v3) v4 (Rep.mv (P3.fr.trans P4.fr).mv _ _ r2) h4
end
/-! ### o.f = e -/
section
variable {c : Cz} {φ : Nm → Addr} {Mo : Addr → Prop} {s : St} {σ : L2.St} {H : Hp} {nm : Nm} {k f : Nat} {fs : List (Nat × D)} {d : D} {v : V}
theorem own_fput (hn : ∀ n g, nm ≠ .fld n g) (e : own s nm = some (.oobj k fs)) : own (putAt s nm (.oobj k (fput f d fs))) nm = some (.oobj k (fput f d fs)) ∧
    ∀ nm', nm' ≠ nm → ∀ x, own (putAt s nm (.oobj k (fput f d fs))) nm' = some x → (∃ n, nm = .cell n ∧ nm' = .fld n f ∧ x = d) ∨ own s nm' = some x := by
  cases nm with
  | fld n g => exact absurd rfl (hn n g)
  | slot i =>
    have hi : i < s.env.length := (List.getElem?_eq_some_iff.mp (slot_env e)).1
    refine ⟨?_, fun nm' hne x hx => .inr ?_⟩
    · show (((s.env.set i (some (.oobj k (fput f d fs))))[i]?).join).filter owned = _
      rw [List.getElem?_set_self hi]
      rfl
    · cases nm' with
      | slot j =>
        have hj : i ≠ j := fun z => hne (by rw [z])
        have hx : (((s.env.set i (some (.oobj k (fput f d fs))))[j]?).join).filter owned = some x := hx
        rw [List.getElem?_set_ne hj] at hx
        exact hx
      | cell n => exact hx
      | fld n g => exact hx
  | cell n =>
    have e0 := (own_iff.mp e).1
    have hl : n < s.sto.length := (List.getElem?_eq_some_iff.mp e0).1
    refine ⟨?_, fun nm' hne x hx => ?_⟩
    · show ((s.sto.set n (.oobj k (fput f d fs)))[n]?).filter owned = _
      rw [List.getElem?_set_self hl]
      rfl
    · cases nm' with
      | slot j => exact .inr hx
      | cell m =>
        have hj : n ≠ m := fun z => hne (by rw [z])
        have hx : ((s.sto.set n (.oobj k (fput f d fs)))[m]?).filter owned = some x := hx
        rw [List.getElem?_set_ne hj] at hx
        exact .inr hx
      | fld m g =>
        have hx : (fldO (s.sto.set n (.oobj k (fput f d fs)))[m]? g).filter owned = some x := hx
        by_cases hj : n = m
        · subst hj
          rw [List.getElem?_set_self hl] at hx
          have hx : ((fput f d fs).lookup g).filter owned = some x := hx
          rw [lookup_fput] at hx
          by_cases hg : g = f
          · subst hg
            rw [if_pos rfl] at hx
            exact .inl ⟨n, rfl, rfl, by
              have := (Option.filter_eq_some_iff.mp hx).1
              cases this
              rfl⟩
          · rw [if_neg hg] at hx
            refine .inr ?_
            show (fldO s.sto[n]? g).filter owned = _
            have e0 : s.sto[n]? = some (.oobj k fs) := e0
            rw [e0]
            exact hx
        · rw [List.getElem?_set_ne hj] at hx
          exact .inr hx
theorem putAt_len : (putAt s nm d).sto.length = s.sto.length ∧ (putAt s nm d).env.length = s.env.length := by
  cases nm with
  | slot i => exact ⟨rfl, List.length_set ..⟩
  | cell n => exact ⟨List.length_set .., rfl⟩
  | fld n f =>
    unfold putAt
    dsimp only
    split
    · exact ⟨List.length_set .., rfl⟩
    · exact ⟨rfl, rfl⟩
theorem putAt_slots (hn : ∀ n g, nm ≠ .fld n g) {j : Nat} {x : D} (h : (putAt s nm d).env[j]? = some (some x)) : (nm = .slot j ∧ x = d) ∨ (nm ≠ .slot j ∧ s.env[j]? = some (some x)) := by
  cases nm with
  | slot i =>
    have h : (s.env.set i (some d))[j]? = some (some x) := h
    by_cases hj : i = j
    · subst hj
      have hl : i < s.env.length := by
        have := (List.getElem?_eq_some_iff.mp h).1
        rwa [List.length_set] at this
      rw [List.getElem?_set_self hl] at h
      cases h
      exact .inl ⟨rfl, rfl⟩
    · rw [List.getElem?_set_ne hj] at h
      exact .inr ⟨fun z => hj (by cases z; rfl), h⟩
  | cell n => exact .inr ⟨fun z => (by cases z), h⟩
  | fld n f => exact absurd rfl (hn n f)
/-- a field's value -/
def FV (c : Cz) (φ : Nm → Addr) (M : Addr → Prop) (H : Hp) (L : Nat) (nm : Nm) (f : Nat) (d : D) (v : V) : Prop := if owned d then ∃ n, nm = .cell n ∧ v = .ref (φ (.fld n f)) else Rep c φ M H L d v
theorem repO_fput {M : Addr → Prop} {L : Nat} (inj : ∀ f g, c.ha f = true → c.ha g = true → c.an f = c.an g → f = g) (hf : c.ha f = true) (hv : FV c φ M H L nm f d v) : ∀ {fs : List (Nat × D)} {us : List (Str × V)}, RepO c φ M H L nm fs us → RepO c φ M H L nm (fput f d fs) (putF (c.an f) v us)
  | [], us, h => by
    rw [show us = [] from h]
    exact ⟨hf, v, [], rfl, hv, rfl⟩
  | (g, d0) :: r, us, h => by
    obtain ⟨hg, w, ws, rfl, r0, t⟩ := h
    show RepO c φ M H L nm (if g = f then (g, d) :: r else (g, d0) :: fput f d r) (if c.an g = c.an f then (c.an g, v) :: ws else (c.an g, w) :: putF (c.an f) v ws)
    by_cases hh : g = f
    · subst hh
      rw [if_pos rfl, if_pos rfl]
      exact ⟨hg, v, ws, rfl, hv, t⟩
    · rw [if_neg hh, if_neg fun e => hh (inj g f hg hf e)]
      exact ⟨hg, w, _, rfl, r0, repO_fput inj hf hv t⟩
end
end TR
end

section
set_option Elab.async false
set_option linter.all false
set_option maxRecDepth 100000
set_option autoImplicit false
/-! TrStm5: o.f = e. -/
namespace TR
open PySem L2
section
variable {c : Cz} {φ : Nm → Addr} {Mo : Addr → Prop} {s : St} {σ : L2.St} {H : Hp} {nm : Nm} {k f : Nat} {fs : List (Nat × D)} {d : D} {v : V} {dx : Addr} {us : List (Str × V)}
theorem repO_len {M : Addr → Prop} {L : Nat} : ∀ {fs : List (Nat × D)} {us : List (Str × V)}, RepO c φ M H L nm fs us → us.length = fs.length
  | [], us, h => by
    rw [show us = [] from h]
    rfl
  | (g, d0) :: r, us, h => by
    obtain ⟨hg, w, ws, rfl, r0, t⟩ := h
    rw [List.length_cons, List.length_cons, repO_len t]
/-- a field is given a value that owns nothing -/
theorem fldA (inj : ∀ f g, c.ha f = true → c.ha g = true → c.an f = c.an g → f = g) (hf : c.ha f = true) (rel : RelE c φ Mo s σ H) (hn : ∀ n g, nm ≠ .fld n g) (e : own s nm = some (.oobj k fs)) (hr : Rep c φ (Ms φ Mo s) H s.sto.length d v)
    (eH : H (φ nm) = some (.ins (c.ct k) dx us)) :
    RelE c φ Mo (putAt s nm (.oobj k (fput f d fs))) σ (upd H (φ nm) (.ins (c.ct k) dx (putF (c.an f) v us))) ∧ Fr φ Mo s H φ Mo (putAt s nm (.oobj k (fput f d fs))) (upd H (φ nm) (.ins (c.ct k) dx (putF (c.an f) v us))) := by
  obtain ⟨o1, o2⟩ := own_fput (d := d) (f := f) hn e
  have ho := rep_nown hr
  have act0 : Act s nm (.oobj k fs) := ⟨e, by intro z; cases z⟩
  have ob : ∀ nm' x, nm' ≠ nm → own (putAt s nm (.oobj k (fput f d fs))) nm' = some x → own s nm' = some x := fun nm' x hne h => by
    rcases o2 nm' hne x h with ⟨_, _, _, rfl⟩ | h
    · have := own_owned h
      rw [ho] at this
      cases this
    · exact h
  have act : ∀ {nm' x}, Act (putAt s nm (.oobj k (fput f d fs))) nm' x → (nm' = nm ∧ x = .oobj k (fput f d fs)) ∨ (nm' ≠ nm ∧ Act s nm' x) := fun {nm' x} h => by
    by_cases hq : nm' = nm
    · subst hq
      have := h.1
      rw [o1] at this
      cases this
      exact .inl ⟨rfl, rfl⟩
    · exact .inr ⟨hq, ob nm' x hq h.1, h.2⟩
  have ms : ∀ a, Ms φ Mo (putAt s nm (.oobj k (fput f d fs))) a → Ms φ Mo s a := fun a => by
    rintro (h | ⟨nm', x, h, q⟩)
    · exact .inl h
    · rcases act h with ⟨rfl, _⟩ | ⟨_, h⟩
      · exact .inr ⟨_, _, act0, q⟩
      · exact .inr ⟨nm', x, h, q⟩
  have mem : Ms φ Mo s (φ nm) := .inr ⟨_, _, act0, rfl⟩
  have mv : Mv φ φ (Ms φ Mo s) (Ms φ Mo (putAt s nm (.oobj k (fput f d fs)))) H (upd H (φ nm) (.ins (c.ct k) dx (putF (c.an f) v us))) s.sto.length (putAt s nm (.oobj k (fput f d fs))).sto.length :=
    ⟨fun a o h q => by
      rw [upd_ne fun z => q (by rw [z]; exact mem)]
      exact ⟨h, fun z => q (ms a z)⟩, fun _ _ => rfl, by rw [putAt_len.1]; exact Nat.le_refl _⟩
  have dom : ∀ a, H a ≠ none → upd H (φ nm) (.ins (c.ct k) dx (putF (c.an f) v us)) a ≠ none := fun a h => by
    by_cases q : a = φ nm
    · rw [q, upd_same]
      exact fun z => by cases z
    · rw [upd_ne q]
      exact h
  have fr : Fr φ Mo s H φ Mo (putAt s nm (.oobj k (fput f d fs))) (upd H (φ nm) (.ins (c.ct k) dx (putF (c.an f) v us))) := by
    refine ⟨fun a o h q => (mv.at_ a o h q).1, fun a h => .inl (ms a h), fun a h => ⟨h, fun o q => ?_⟩, fun a h => .inl h, fun _ _ => rfl, by rw [putAt_len.1]; exact Nat.le_refl _, dom, fun nm' h => ?_, fun i x h => ?_, rfl⟩
    · rw [upd_ne fun z => rel.out _ _ act0 (by rw [← z]; exact h)]
      exact q
    · by_cases hq : nm' = nm
      · subst hq
        rw [o1] at h
        cases h
      · exact ⟨ob nm' _ hq h, rfl⟩
    · rcases act h with ⟨e1, _⟩ | ⟨_, h⟩
      · subst e1
        exact .inl ⟨⟨_, act0⟩, rfl⟩
      · exact .inl ⟨⟨_, h⟩, rfl⟩
  refine ⟨⟨⟨fun a b x y ha hb q => ?_, fun a x ha z => ?_, fun a x ha => ?_, fun a h => dom a (rel.dom a h)⟩, by rw [putAt_len.2]; exact rel.len, fun i x h => ?_⟩, fr⟩
  · have ga : ∃ x', Act s a x' := (act ha).elim (fun q => ⟨_, by rw [q.1]; exact act0⟩) fun q => ⟨_, q.2⟩
    have gb : ∃ x', Act s b x' := (act hb).elim (fun q => ⟨_, by rw [q.1]; exact act0⟩) fun q => ⟨_, q.2⟩
    obtain ⟨_, ga⟩ := ga
    obtain ⟨_, gb⟩ := gb
    exact rel.inj a b _ _ ga gb q
  · rcases act ha with ⟨e1, _⟩ | ⟨_, h⟩
    · subst e1
      exact rel.out _ _ act0 z
    · exact rel.out a x h z
  · rcases act ha with ⟨e1, e2⟩ | ⟨hq, h⟩
    · subst e1 e2
      obtain ⟨hk, nd, dx', us', e3, r⟩ := rel.cnt _ _ act0
      rw [eH] at e3
      cases e3
      refine ⟨hk, nodup_fput f d fs nd, dx, putF (c.an f) v us, upd_same, ?_⟩
      refine repO_fput inj hf ?_ (RepO.mv mv fs us (fun _ _ _ _ _ _ => rfl) r)
      unfold FV
      rw [if_neg (by rw [ho]; exact Bool.false_ne_true)]
      exact Rep.mv mv _ _ hr
    · refine (rel.cnt a x h).mv mv (fun o q => ?_) fun _ _ _ _ _ _ _ _ _ => rfl
      rw [upd_ne fun z => hq (rel.inj a nm _ _ h act0 z)]
      exact q
  · rcases putAt_slots hn h with ⟨e1, e2⟩ | ⟨e1, h⟩
    · subst e1 e2
      obtain ⟨w, q1, q2⟩ := rel.slots i _ (slot_env e)
      exact ⟨w, q1, q2⟩
    · obtain ⟨w, q1, q2⟩ := rel.slots i x h
      refine ⟨w, q1, ?_⟩
      by_cases hx : owned x = true
      · rw [if_pos hx] at q2 ⊢
        exact q2
      · rw [if_neg hx] at q2 ⊢
        exact Rep.mv mv _ _ q2
def φf (φ : Nm → Addr) (n f : Nat) (p : Addr) (nm : Nm) : Addr := if nm = .fld n f then p else φ nm
theorem φf_ne {n f : Nat} {p : Addr} {nm : Nm} (h : nm ≠ .fld n f) : φf φ n f p nm = φ nm := if_neg h
theorem φf_eq {n f : Nat} {p : Addr} : φf φ n f p (.fld n f) = p := if_pos rfl
/-- a field is replaced, the others as they were -/
theorem repO_fputB {φ' : Nm → Addr} {M M' : Addr → Prop} {H' : Hp} {L L' n : Nat} (inj : ∀ f g, c.ha f = true → c.ha g = true → c.an f = c.an g → f = g) (hf : c.ha f = true) (mv : Mv φ φ' M M' H H' L L') (hφ : ∀ g, g ≠ f → φ' (.fld n g) = φ (.fld n g))
    (hv : FV c φ' M' H' L' (.cell n) f d v) : ∀ {fs : List (Nat × D)} {us : List (Str × V)}, (fs.map (·.1)).Nodup → RepO c φ M H L (.cell n) fs us → RepO c φ' M' H' L' (.cell n) (fput f d fs) (putF (c.an f) v us)
  | [], us, _, h => by
    rw [show us = [] from h]
    exact ⟨hf, v, [], rfl, hv, rfl⟩
  | (g, d0) :: r, us, nd, h => by
    obtain ⟨hg, w, ws, rfl, r0, t⟩ := h
    rw [List.map_cons, List.nodup_cons] at nd
    show RepO c φ' M' H' L' (.cell n) (if g = f then (g, d) :: r else (g, d0) :: fput f d r) (if c.an g = c.an f then (c.an g, v) :: ws else (c.an g, w) :: putF (c.an f) v ws)
    by_cases hh : g = f
    · subst hh
      rw [if_pos rfl, if_pos rfl]
      refine ⟨hg, v, ws, rfl, hv, RepO.mv mv r ws (fun m g' d' e hm _ => ?_) t⟩
      cases e
      exact hφ g' fun z => nd.1 (by rw [← z]; exact List.mem_map_of_mem (f := (·.1)) hm)
    · rw [if_neg hh, if_neg fun e => hh (inj g f hg hf e)]
      refine ⟨hg, w, _, rfl, ?_, repO_fputB inj hf mv hφ hv nd.2 t⟩
      by_cases ho : owned d0 = true
      · rw [if_pos ho] at r0 ⊢
        obtain ⟨m, e, q⟩ := r0
        cases e
        exact ⟨n, rfl, by rw [hφ g hh]; exact q⟩
      · rw [if_neg ho] at r0 ⊢
        exact Rep.mv mv _ _ r0
/-- a field is given a list or dict of its own -/
theorem fldB {φ0 : Nm → Addr} {Mo0 : Addr → Prop} {s0 : St} {H0 : Hp} {n : Nat} {p : Addr} (inj : ∀ f g, c.ha f = true → c.ha g = true → c.an f = c.an g → f = g) (hf : c.ha f = true) (rel : RelE c φ Mo s σ H) (f0 : Fr φ0 Mo0 s0 H0 φ Mo s H) (r0 : ∀ a, Mo0 a → H0 a ≠ none) (h0 : H0 p = none)
    (e : own s (.cell n) = some (.oobj k fs)) (hl : ldt d = true) (hp : Mo p) (kp : ContAt c φ (Ms φ Mo s) H s.sto.length (.slot 0) d p) (eH : H (φ (.cell n)) = some (.ins (c.ct k) dx us)) :
    RelE c (φf φ n f p) (fun x => Mo x ∧ x ≠ p) (putAt s (.cell n) (.oobj k (fput f d fs))) σ (upd H (φ (.cell n)) (.ins (c.ct k) dx (putF (c.an f) (.ref p) us))) ∧
    Fr φ0 Mo0 s0 H0 (φf φ n f p) (fun x => Mo x ∧ x ≠ p) (putAt s (.cell n) (.oobj k (fput f d fs))) (upd H (φ (.cell n)) (.ins (c.ct k) dx (putF (c.an f) (.ref p) us))) := by
  have hn : ∀ m g, Nm.cell n ≠ .fld m g := fun m g z => by cases z
  obtain ⟨o1, o2⟩ := own_fput (d := d) (f := f) hn e
  have ho : owned d = true := by cases d <;> first | rfl | cases hl
  have nh : d ≠ .hid := by cases d <;> first | (intro z; cases z; done) | cases hl
  have act0 : Act s (.cell n) (.oobj k fs) := ⟨e, by intro z; cases z⟩
  have act : ∀ {nm' x}, Act (putAt s (.cell n) (.oobj k (fput f d fs))) nm' x → (nm' = .cell n ∧ x = .oobj k (fput f d fs)) ∨ (nm' = .fld n f ∧ x = d) ∨ (nm' ≠ .cell n ∧ nm' ≠ .fld n f ∧ Act s nm' x) := fun {nm' x} h => by
    by_cases hq : nm' = .cell n
    · subst hq
      have := h.1
      rw [o1] at this
      cases this
      exact .inl ⟨rfl, rfl⟩
    · by_cases h2 : nm' = .fld n f
      · subst h2
        rcases o2 _ hq x h.1 with ⟨m, e1, e2, e3⟩ | h3
        · exact .inr (.inl ⟨rfl, e3⟩)
        · -- what stands there now is d
          have e0 := (own_iff.mp e).1
          have hlen : n < s.sto.length := (List.getElem?_eq_some_iff.mp e0).1
          have q : own (putAt s (.cell n) (.oobj k (fput f d fs))) (.fld n f) = some d := by
            show (fldO (s.sto.set n (.oobj k (fput f d fs)))[n]? f).filter owned = _
            rw [List.getElem?_set_self hlen]
            show ((fput f d fs).lookup f).filter owned = _
            rw [lookup_fput, if_pos rfl]
            exact Option.filter_eq_some_iff.mpr ⟨rfl, ho⟩
          have := h.1
          rw [q] at this
          cases this
          exact .inr (.inl ⟨rfl, rfl⟩)
      · rcases o2 _ hq x h.1 with ⟨m, e1, e2, e3⟩ | h3
        · cases e1
          exact absurd e2 h2
        · exact .inr (.inr ⟨hq, h2, h3, h.2⟩)
  have ms : ∀ a, Ms (φf φ n f p) (fun x => Mo x ∧ x ≠ p) (putAt s (.cell n) (.oobj k (fput f d fs))) a → Ms φ Mo s a := fun a => by
    rintro (h | ⟨nm', x, h, q⟩)
    · exact .inl h.1
    · rcases act h with ⟨rfl, _⟩ | ⟨rfl, _⟩ | ⟨_, h2, h⟩
      · rw [φf_ne fun z => by cases z] at q
        exact .inr ⟨_, _, act0, q⟩
      · rw [φf_eq] at q
        subst q
        exact .inl hp
      · rw [φf_ne h2] at q
        exact .inr ⟨nm', x, h, q⟩
  have mem : Ms φ Mo s (φ (.cell n)) := .inr ⟨_, _, act0, rfl⟩
  have pne : p ≠ φ (.cell n) := fun z => rel.out _ _ act0 (by rw [← z]; exact hp)
  have hc : ∀ m, φf φ n f p (.cell m) = φ (.cell m) := fun m => φf_ne fun z => by cases z
  have mv : Mv φ (φf φ n f p) (Ms φ Mo s) (Ms (φf φ n f p) (fun x => Mo x ∧ x ≠ p) (putAt s (.cell n) (.oobj k (fput f d fs)))) H (upd H (φ (.cell n)) (.ins (c.ct k) dx (putF (c.an f) (.ref p) us))) s.sto.length (putAt s (.cell n) (.oobj k (fput f d fs))).sto.length :=
    ⟨fun a o h q => by
      rw [upd_ne fun z => q (by rw [z]; exact mem)]
      exact ⟨h, fun z => q (ms a z)⟩, fun m _ => hc m, by rw [putAt_len.1]; exact Nat.le_refl _⟩
  have dom : ∀ a, H a ≠ none → upd H (φ (.cell n)) (.ins (c.ct k) dx (putF (c.an f) (.ref p) us)) a ≠ none := fun a h => by
    by_cases q : a = φ (.cell n)
    · rw [q, upd_same]
      exact fun z => by cases z
    · rw [upd_ne q]
      exact h
  refine ⟨⟨⟨fun a b x y ha hb q => ?_, fun a x ha z => ?_, fun a x ha => ?_, fun a h => dom a (rel.dom a h.1)⟩, by rw [putAt_len.2]; exact rel.len, fun i x h => ?_⟩, ⟨fun a o h q => ?_, fun a h => f0.new a (ms a h), fun a h => ?_, fun a h => f0.fresh a h.1, fun m hm => ?_, ?_, fun a h => dom a (f0.dom a h), fun nm' h => ?_, fun i x h => ?_, by rw [φf_ne fun z => by cases z]; exact f0.s0⟩⟩
  · have g : ∀ {a x}, Act (putAt s (.cell n) (.oobj k (fput f d fs))) a x → (a = .fld n f ∧ φf φ n f p a = p) ∨ (a ≠ .fld n f ∧ φf φ n f p a = φ a ∧ ∃ x', Act s a x') := fun {a x} ha => by
      rcases act ha with ⟨rfl, _⟩ | ⟨rfl, _⟩ | ⟨_, h2, h⟩
      · exact .inr ⟨fun z => (by cases z), φf_ne fun z => (by cases z), _, act0⟩
      · exact .inl ⟨rfl, φf_eq⟩
      · exact .inr ⟨h2, φf_ne h2, _, h⟩
    rcases g ha with ⟨rfl, e1⟩ | ⟨n1, e1, _, a1⟩ <;> rcases g hb with ⟨rfl, e2⟩ | ⟨n2, e2, _, a2⟩
    · rfl
    · rw [e1, e2] at q
      exact absurd (by rw [← q]; exact hp) (rel.out _ _ a2)
    · rw [e1, e2] at q
      exact absurd (by rw [q]; exact hp) (rel.out _ _ a1)
    · rw [e1, e2] at q
      exact rel.inj _ _ _ _ a1 a2 q
  · rcases act ha with ⟨rfl, _⟩ | ⟨rfl, _⟩ | ⟨_, h2, h⟩
    · rw [hc] at z
      exact rel.out _ _ act0 z.1
    · rw [φf_eq] at z
      exact z.2 rfl
    · rw [φf_ne h2] at z
      exact rel.out _ _ h z.1
  · rcases act ha with ⟨rfl, rfl⟩ | ⟨rfl, rfl⟩ | ⟨h1, h2, h⟩
    · rw [hc]
      obtain ⟨hk, nd, dx', us', e3, r⟩ := rel.cnt _ _ act0
      rw [eH] at e3
      cases e3
      refine ⟨hk, nodup_fput f d fs nd, dx, putF (c.an f) (.ref p) us, upd_same, ?_⟩
      refine repO_fputB inj hf mv (fun g hg => φf_ne fun z => hg (by cases z; rfl)) ?_ nd r
      unfold FV
      rw [if_pos ho]
      exact ⟨n, rfl, by rw [φf_eq]⟩
    · rw [φf_eq]
      have k2 : ContAt c φ (Ms φ Mo s) H s.sto.length (.fld n f) x p := by
        cases x <;> first | (cases hl; done) | exact kp
      refine k2.mv mv (fun o q => ?_) fun m k fs f d' e => by cases e
      rw [upd_ne pne]
      exact q
    · rw [φf_ne h2]
      refine (rel.cnt a x h).mv mv (fun o q => ?_) fun m k' fs' g d' e1 e2 e3 e4 => φf_ne fun z => ?_
      · rw [upd_ne fun z => h1 (rel.inj a _ _ _ h act0 z)]
        exact q
      · subst e1
        cases z
        exact h1 rfl
  · rcases putAt_slots hn h with ⟨e1, _⟩ | ⟨_, h⟩
    · cases e1
    · obtain ⟨w, q1, q2⟩ := rel.slots i x h
      refine ⟨w, q1, ?_⟩
      by_cases hx : owned x = true
      · rw [if_pos hx] at q2 ⊢
        rw [φf_ne fun z => by cases z]
        exact q2
      · rw [if_neg hx] at q2 ⊢
        exact Rep.mv mv _ _ q2
  · have hx := f0.imm a o h q
    rw [upd_ne fun z => ?_]
    · exact hx
    · subst z
      exact (f0.new _ mem).elim q fun z => by
        rw [h] at z
        cases z
  · refine ⟨⟨(f0.outer a h).1, fun z => r0 a h (by rw [z]; exact h0)⟩, fun o q => ?_⟩
    rw [upd_ne fun z => rel.out _ _ act0 (by rw [← z]; exact (f0.outer a h).1)]
    exact (f0.outer a h).2 o q
  · rw [hc]
    exact f0.cell m hm
  · rw [putAt_len.1]
    exact f0.len
  · by_cases hq : nm' = .cell n
    · subst hq
      rw [o1] at h
      cases h
    · rcases o2 _ hq _ h with ⟨m, e1, e2, e3⟩ | h3
      · exact absurd e3.symm nh
      · by_cases h2 : nm' = .fld n f
        · subst h2
          have e0 := (own_iff.mp e).1
          have hlen : n < s.sto.length := (List.getElem?_eq_some_iff.mp e0).1
          have q : own (putAt s (.cell n) (.oobj k (fput f d fs))) (.fld n f) = some d := by
            show (fldO (s.sto.set n (.oobj k (fput f d fs)))[n]? f).filter owned = _
            rw [List.getElem?_set_self hlen]
            show ((fput f d fs).lookup f).filter owned = _
            rw [lookup_fput, if_pos rfl]
            exact Option.filter_eq_some_iff.mpr ⟨rfl, ho⟩
          rw [q] at h
          exact absurd (Option.some.inj h) nh
        · rw [φf_ne h2]
          exact f0.hid nm' h3
  · rcases act h with ⟨e1, _⟩ | ⟨e1, _⟩ | ⟨_, h2, h⟩
    · cases e1
    · cases e1
    · rw [φf_ne h2]
      exact f0.slot i x h
end
section
variable {T : Tb} {F : Fi} {c : Cz} {W : Wx} {a e : E} {f : Nat}
theorem ldt_temp {d : D} (h : ldt d = true) : temp d = true := by
  cases d <;> first | rfl | cases h
theorem tE_flB {cl : Bool} {r : St → R D} {k : D → St → Fl} {φ φ0 : Nm → Addr} {Mo Mo0 : Addr → Prop} {s s0 : St} {σ : L2.St} {H H0 : Hp} {Dn : Ends} {Q : VK} (rel : RelE c φ Mo s σ H) (f : Fr φ0 Mo0 s0 H0 φ Mo s H) (h : OutS c W φ0 Mo0 s0 H0 ((r s).fl k) Dn)
    (q : ∀ d v φ2 Mo2 s2 H2, PostE c cl σ φ Mo s H φ2 Mo2 s2 H2 → VRep c φ2 Mo2 s2 H2 d v → freshV H d v → OutS c W φ0 Mo0 s0 H0 (k d s2) Dn → Q v H2) : tE c W cl r σ H Q := by
  refine ⟨φ, Mo, s, rel, ?_⟩
  cases e : r s with
  | stuck =>
    rw [e] at h
    exact h.elim
  | exc k fs s2 =>
    rw [e] at h
    exact fun cls dx φ2 Mo2 H2 P x => h σ cls dx φ2 Mo2 H2 P.rel (f.trans P.fr) x
  | ok d s2 =>
    rw [e] at h
    exact fun v φ2 Mo2 H2 P vr fr => q d v φ2 Mo2 s2 H2 P vr fr h
theorem setFld_to {K : PySem.W.Frag} {σ : L2.St} {H0 : Hp} {Dn : Ends} (inj : ∀ f g, c.ha f = true → c.ha g = true → c.an f = c.an g → f = g) (hf : c.ha f = true) (hC : ∀ k, c.hc k = true → Cls K (c.ct k) ∧ NoAttr K (c.ct k) (c.an f))
    (h : tS c W (fun s => (evE T F e s).fl fun d s => (evE T F a s).fl fun x s => setFldD s x f d) Dn σ H0) : sFld K (TE' T F c W a) (TE' T F c W e) (c.an f) Dn σ H0 := by
  obtain ⟨φ, Mo, s, rel, h⟩ := h
  refine tE_fl rel h fun d v φ1 Mo1 s1 H1 P1 v1 f1 h1 => ?_
  refine tE_flB P1.rel P1.fr h1 fun x xv φ2 Mo2 s2 H2 P2 v2 f2 h2 => ?_
  -- the value is not a field's own thing
  have nf : isF d = false := by
    cases q : isF d with
    | false => rfl
    | true =>
      cases d with
      | fref n g =>
        exfalso
        unfold setFldD at h2
        cases x <;> first | exact h2.elim | skip
      | _ => cases q
  have vd : VRep c φ2 Mo2 s2 H2 d v := P2.vrep (fun q => by rw [nf] at q; cases q) v1
  have P02 : PostE c false σ φ Mo s H0 φ2 Mo2 s2 H2 := P1.trans P2 fun q => by cases q
  have fin : ∀ {nm : Nm} {k : Nat} {fs : List (Nat × D)} {s3 : St} {Mo3 : Addr → Prop}, xv = .ref (φ2 nm) → RelE c φ2 Mo3 s3 σ H2 → own s3 nm = some (.oobj k fs) → fs.length < 100 → (∀ dx us, H2 (φ2 nm) = some (.ins (c.ct k) dx us) → Dn.nx σ (upd H2 (φ2 nm) (.ins (c.ct k) dx (putF (c.an f) v us)))) →
      ∃ a C dx fs, xv = .ref a ∧ H2 a = some (.ins C dx fs) ∧ Cls K C ∧ NoAttr K C (c.an f) ∧ fs.length < 1000 ∧ Dn.nx σ (upd H2 a (.ins C dx (putF (c.an f) v fs))) := fun {nm k fs s3 Mo3} ex r eo hl q => by
    obtain ⟨hk, nd, dx, us, e3, rr⟩ := r.cnt nm _ ⟨eo, by intro z; cases z⟩
    exact ⟨φ2 nm, c.ct k, dx, us, ex, e3, (hC k hk).1, (hC k hk).2, by rw [repO_len rr]; omega, q dx us e3⟩
  have put : ∀ {nm : Nm}, (∀ n g, nm ≠ .fld n g) → xv = .ref (φ2 nm) → OutS c W φ Mo s H0 ((esc s2 d).fl fun d s => fldPut s nm f d) Dn →
      ∃ a C dx fs, xv = .ref a ∧ H2 a = some (.ins C dx fs) ∧ Cls K C ∧ NoAttr K C (c.an f) ∧ fs.length < 1000 ∧ Dn.nx σ (upd H2 a (.ins C dx (putF (c.an f) v fs))) := fun {nm} hn ex h => by
    cases es : esc s2 d with
    | stuck =>
      rw [es] at h
      exact h.elim
    | exc k fs s3 => exact absurd es esc_noexc
    | ok d2 s3 =>
      rw [es] at h
      obtain ⟨Mo3, P3, r3, ho, _, _⟩ := esc_ok P02 rel.dom vd f1 es
      have h : OutS c W φ Mo s H0 (fldPut s3 nm f d2) Dn := h
      unfold fldPut at h
      split at h
      · rename_i k fs eo
        split at h
        · rename_i hl
          refine fin ex P3.rel eo hl fun dx us e3 => ?_
          obtain ⟨r4, f4⟩ := fldA inj hf P3.rel hn eo r3 e3
          exact h _ _ _ _ r4 (P3.fr.trans f4)
        · exact h.elim
      · exact h.elim
  unfold setFldD at h2
  cases x with
  | loc n =>
    have ex : xv = .ref (φ2 (.cell n)) := v2.2
    cases hl : ldt d with
    | false =>
      simp only [hl, Bool.false_eq_true, if_false] at h2
      exact put (fun m g z => by cases z) ex h2
    | true =>
      simp only [hl, if_true] at h2
      obtain ⟨p, rfl, hp, kp⟩ := vd.tmp (ldt_temp hl)
      unfold fldPut at h2
      split at h2
      · rename_i k fs eo
        split at h2
        · rename_i hlen
          refine fin ex P2.rel eo hlen fun dx us e3 => ?_
          obtain ⟨r4, f4⟩ := fldB inj hf P2.rel P02.fr rel.dom (f1 (ldt_temp hl) p rfl) eo hl hp kp e3
          exact h2 _ _ _ _ r4 f4
        · exact h2.elim
      · exact h2.elim
  | sref i => exact put (fun m g z => by cases z) v2 h2
  | _ => exact h2.elim
end
end TR
end

section
set_option Elab.async false
set_option linter.all false
set_option maxRecDepth 100000
set_option maxHeartbeats 4000000
set_option autoImplicit false
/-! TrTry: try, one except clause with or without a name; the caught exception lies in the heap like any other thing. -/
namespace TR
open PySem L2 PySem.Spec PyProof.Rows
section
variable {X : Cx} {pins : List (Addr × Obj)} {σ : L2.St} {H : Hp} {s : Shared}
/-- an object that stands there already is told of -/
theorem track {a : Addr} {o : HO} (I : Inv X pins σ H s) (hn : H a = none) (h0 : X.s_0.heap.get? a = none) (hL : a ≠ X.env.locals) (hF : a ∉ X.fs) (hC : ∀ x cc, X.env.cells.lookup x = some cc → cc ≠ a) (hP : ∀ p ∈ X.pn ++ pins, p.1 ≠ a)
    (ok : ObjOk X.prog X.w (upd H a o) s.heap a o) : Inv X pins σ (upd H a o) s where
  ok := I.ok
  os := I.os
  bare := I.bare
  base := ⟨I.base.keep, I.base.slot, fun b u e n hx => by
      have hb : b ≠ a := fun z => by
        rw [z, h0] at e
        cases e
      rw [upd_ne hb]
      exact I.base.free b u e n hx, I.base.there, fun b xs e => by
      have q := I.base.tups b xs e
      rw [upd_ne (ne_of_none q hn)]
      exact q, fun b u v e => by
      have q := I.base.frzs b u v e
      rw [upd_ne (ne_of_none q hn)]
      exact q, fun b ps e => by
      obtain ⟨m, q⟩ := I.base.tbls b ps e
      exact ⟨m, by rw [upd_ne (ne_of_none q hn)]; exact q⟩⟩
  loc := I.loc
  cell := I.cell
  free := by
    rw [upd_ne (Ne.symm hL)]
    exact I.free
  freeC := fun x cc e => by
    rw [upd_ne (hC x cc e)]
    exact I.freeC x cc e
  pin := fun p hp => by
    obtain ⟨e, n, r⟩ := I.pin p hp
    exact ⟨e, by rw [upd_ne (hP p hp)]; exact n, r⟩
  hok := fun b u e => by
    by_cases hb : b = a
    · subst hb
      rw [upd_same] at e
      cases e
      exact ok
    · rw [upd_ne hb] at e
      exact (I.hok b u e).stay (fun _ _ _ q => q) (fun cc q => by rw [upd_ne (ne_of_none q hn)]; exact q) fun cc xs q => by rw [upd_ne (ne_of_none q hn)]; exact q
  len := I.len
theorem exH_ok {P : Program} {w : World} {H : Hp} {h : Heap} {a : Addr} {cls : Value} {d : Option Addr} {oe : Obj} {vs : Array Value} (e : h.get? a = some oe) (z : Zc cls d oe) (dt : oe.data = .fields vs) : ObjOk P w H h a (ExH cls d a) :=
  ⟨⟨oe, vs, e, z, dt⟩, ⟨oe, e⟩, fun _ _ ⟨o, v, q, r⟩ k => ⟨o, v, k o q, r⟩⟩
/-- the context of an except suite, the exception told of -/
abbrev suiteX (X : Cx) (a : Addr) (pn : List (Addr × Obj)) : Cx := X.suite a pn
theorem to_suite (I : Inv X pins σ H s) (a : Addr) : Inv (suiteX X a (X.pn ++ pins)) [] σ H s :=
  ⟨I.ok.suite _ _, I.os, I.bare, I.base, I.loc, I.cell, I.free, I.freeC, fun p hp => I.pin p (by rw [List.append_nil] at hp; exact hp), I.hok, I.len⟩
theorem of_suite {a : Addr} {pn' : List (Addr × Obj)} (I : Inv (suiteX X a (X.pn ++ pins)) pn' σ H s) (ok : X.Ok) : Inv X pins σ H s :=
  ⟨ok, I.os, I.bare, I.base, I.loc, I.cell, I.free, I.freeC, fun p hp => I.pin p (List.mem_append_left _ hp), I.hok, I.len⟩
/-- the ends of a suite whose clause has a name in slot i -/
def endN (i : Nat) (D : Ends) : Ends := { nx := fun σ' H' => D.nx (σ'.set i none) H', rt := D.rt, bk := fun σ' H' => D.bk (σ'.set i none) H', ct := fun σ' H' => D.ct (σ'.set i none) H' }
/-- what the clause wishes: the suite's part -/
def inSuite (xi : Option Nat) (ts : Addr → TS) (D : Ends) (cls : Value) (d : Option Addr) (σ : L2.St) (H : Hp) (a : Addr) : Prop := match xi with
  | some i => ts a (endN i D) (σ.set i (some (.ref a))) (upd H a (ExH cls d a))
  | none => ts a D σ (upd H a (ExH cls d a))
def wT (K : PySem.W.Frag) (cv : Value) (xi : Option Nat) (ts : Addr → TS) (Wout : WX) (D : Ends) : WX := fun cls d σ H =>
  ∃ b, PySem.W.exmOne K cls cv = some b ∧ (b = true → ∀ a, H a = none → inSuite xi ts D cls d σ H a) ∧ (b = false → Wout cls d σ H)
/-- a clause's name and its slot -/
def nmAt (X : Cx) : Option Str → Option Nat → Prop
  | some y, some i => X.N[i]? = some y ∧ X.env.kindOf y = some .local
  | none, none => True
  | _, _ => False
end
section
variable {X : Cx} {x : Str} {xn : Option Str} {cv : Value} {xi : Option Nat} {body suite : List Stmt} {b0 : Stmt} {np pos pos' : Pos} {tb : WX → TS} {ts : Addr → TS} {Wout : WX}
theorem ps_tryT (st : X.stack = X.env :: X.outer) (fr : X.env.frame = some X.env.locals) (hex : X.ex = []) (nd : X.N.Nodup) (hn : nmAt X xn xi) (hc : Names X x cv) (tk : Takes X Wout)
    (hb : ∀ (W : WX) (pn : List (Addr × Obj)) (xe : Value → Shared → Prop), Takes (X.tr pn xe) W → PassesOwn (model X.prog X.w) X.A X.env xe → PSs (X.tr pn xe) body (tb W))
    (hs : ∀ (a : Addr) (pn : List (Addr × Obj)), PSs (suiteX X a pn) (b0 :: suite) (ts a)) :
    PS X (.Try body [.ExceptHandler (some (.Name x np)) xn (b0 :: suite) pos'] [] [] pos) (fun D σ H => tb (wT X.K cv xi ts Wout D) D σ H) := by
  refine ⟨fun pins s σ H D I h => ?_⟩
  have ok := I.ok
  have frames : X.A.frames = some (X.env :: X.outer) := by rw [ok.frames, st]
  refine wpAny_Try_except (wpAny_mono ((hb (wT X.K cv xi ts Wout D) (X.pn ++ pins) (fun e s1 => wpAny (model X.prog X.w) X.A (noteFrame e X.env) (fun _ s2 => wpAny (model X.prog X.w) X.A (setFlight e none) (fun _ s3 =>
    wpAny (model X.prog X.w) X.A (handleBy e X.env [.ExceptHandler (some (.Name x np)) xn (b0 :: suite) pos']) (SP X pins D) X.xe s3) X.xe s2) X.xe s1) (fun u s' xx => ?_) PassesOwn.looking).run [] s σ H D (I.toTry _) h) (fun f s1 q => ?_) fun _ _ z => z)
  · obtain ⟨a, B, sI, pins', σ', H', cls, d, rfl, Jt, nb, up, sky, na, os, ag, b, eb, yes, no⟩ := xx
    have J : Inv X pins σ' H' sI := Jt.ofTry ok
    rw [st] at sky
    show wpAny (model X.prog X.w) X.A (noteFrame (.ref a) X.env) _ _ _
    refine Sky.land Zc.steady frames fr sky fun g3 fl3 up3 => ?_
    have J3 : Inv X pins σ' H' { s' with heap := g3 } := J.landed nb fl3.1 (up.trans up3) os ag
    obtain ⟨o3, v3, at3, z3, dt3⟩ := fl3.there
    have offFrames : a ∉ frs (X.env :: X.outer) := fun hm => by
      obtain ⟨_, o', e', nf⟩ := fl3.2.2.1.mem hm
      rw [at3] at e'
      cases e'
      exact nf _ dt3
    have nL : a ≠ X.env.locals := fun z => offFrames (List.mem_filterMap.mpr ⟨X.env, List.mem_cons_self, by rw [fr, z]⟩)
    have nF : a ∉ X.fs := fun hm => by
      obtain ⟨e, he, q⟩ := List.mem_filterMap.mp hm
      exact offFrames (List.mem_filterMap.mpr ⟨e, List.mem_cons_of_mem _ he, q⟩)
    have nI : sI.heap.get? a = none := by
      cases q : sI.heap.get? a with
      | none => rfl
      | some o =>
        have z := nb a o q (by rw [st]; exact offFrames)
        rw [fl3.2.1] at z
        cases z
    have n0 : X.s_0.heap.get? a = none := by
      cases q : X.s_0.heap.get? a with
      | none => rfl
      | some o =>
        obtain ⟨o', z⟩ := J.base.there a o q (by rw [hex]; exact fun z => nomatch z)
        rw [nI] at z
        cases z
    have nC : ∀ y cc, X.env.cells.lookup y = some cc → cc ≠ a := fun y cc e z => by
      obtain ⟨v, o, q, _⟩ := J.cell y cc e
      rw [z, nI] at q
      cases q
    have nP : ∀ p ∈ X.pn ++ pins, p.1 ≠ a := fun p hp z => by
      have q := (J.pin p hp).1
      rw [z, nI] at q
      cases q
    refine wpAny_handleBy_cons (codeAny_handlers_test ?_) (by intro q; cases q)
    have lt : PySem.W.Looks (model X.prog X.w) g3 (typeOf (.ref a)) cls := fun A Q E s k q => wpAny_typeOf_ref (k _ _ at3) (by rw [z3.1]; exact q)
    have lm := PySem.W.exm_one (M := model X.prog X.w) J3.kIn lt eb
    have named : ∀ {Q E : Value → Shared → Prop}, Q cv { s' with heap := g3 } → wpAny (model X.prog X.w) (X.A.mark (some (.ref a))) (eval (.Name x np) X.env) Q E { s' with heap := g3 } := fun {Q E} q => by
      obtain ⟨hg, dbg, hm | ⟨hm, hv, hnn⟩⟩ := hc
      · exact ld_glob (X := suiteX X a (X.pn ++ pins)) (to_suite J3 a) hg hm q dbg
      · exact ld_blt (X := suiteX X a (X.pn ++ pins)) (to_suite J3 a) hg hm hv q hnn dbg
    refine named (lm.here ?_)
    cases b with
    | false =>
      show wpAny _ X.A (handleBy (.ref a) X.env []) _ _ _
      refine wpAny_handleBy_nil ?_
      obtain ⟨_, _, _, oe, vs, T, oT, ts', he, hz, hd, h1, _⟩ := id fl3
      unfold PySem.passOn
      refine wpAny_bind (wpAny_field he hd h1 ?_)
      rw [if_neg (show ¬ ((Value.ref T == Value.none) = true) from by simp)]
      have out : wpAny (model X.prog X.w) X.A (setFlight (.ref a) X.env.frame) (fun _ s4 => wpAny (model X.prog X.w) X.A (throw (.ref a) : Sem Flow) (SP X pins D) X.xe s4) X.xe { s' with heap := g3 } := by
        rw [fr]
        exact HandSPX.setFlight_upZ fl3 fun g4 hh4 up4 => wpAny_throw (tk _ _ ⟨a, B, sI, pins, σ', H', cls, d, rfl, J, nb, (up.trans up3).trans up4, .inr (.inr (by rw [st]; exact hh4)), na, os, ag, no rfl⟩)
      first
        | exact wpAny_bind (wpAny_pure (wpAny_bind out))
        | exact wpAny_bind out
    | true =>
      have go := yes rfl a na
      have told : ∀ {g4 : Heap}, HandSPX.FlyingZ B (X.env :: X.outer) a (Zc cls d) g4 → g3.UpToSlots g4 → Inv (suiteX X a (X.pn ++ pins)) [] σ' (upd H' a (ExH cls d a)) { s' with heap := g4 } := fun {g4} fl4 up4 => by
        have J4 : Inv X pins σ' H' { s' with heap := g4 } := J.landed nb fl4.1 ((up.trans up3).trans up4) os ag
        obtain ⟨o4, v4, at4, z4, dt4⟩ := fl4.there
        exact to_suite (track J4 na n0 nL nF nC nP (exH_ok at4 z4 dt4)) a
      cases xn with
      | none =>
        cases xi with
        | some i => exact hn.elim
        | none =>
          refine codeAny_handlers_suite (HandSPX.lands_againZ fl3 fun g4 fl4 up4 => ?_)
          refine wpAny_mono ((hs a (X.pn ++ pins)).run [] _ _ _ _ (told fl4 up4) go) (fun f s6 q => ?_) fun _ _ z => False.elim z
          cases f with
          | ret u =>
            obtain ⟨v6, σ6, H6, S6, r6, q6⟩ := q
            exact ⟨_, _, _, of_suite S6 ok, r6, q6⟩
          | _ =>
            obtain ⟨σ6, H6, S6, q6⟩ := q
            exact ⟨_, _, of_suite S6 ok, q6⟩
      | some y =>
        cases xi with
        | none => exact hn.elim
        | some i =>
          obtain ⟨hi, hl⟩ := hn
          refine codeAny_handlers_suite_as (HandSPX.lands_againZ fl3 fun g4 fl4 up4 => ?_)
          refine store_ok (X := suiteX X a (X.pn ++ pins)) (v := .ref a) (told fl4 up4) nd hi (.inl hl) rfl (fun s5 S5 => ?_) (.inr hl)
          refine wpAny_mono ((hs a (X.pn ++ pins)).run [] s5 _ _ _ S5 go) (fun f s6 q => ?_) fun _ _ z => False.elim z
          have fin : ∀ {σ6 : L2.St} {H6 : Hp} {Q : Shared → Prop}, Inv (suiteX X a (X.pn ++ pins)) [] σ6 H6 s6 → (∀ s7, Inv X pins (σ6.set i none) H6 s7 → Q s7) →
              wpAny (model X.prog X.w) X.A (do bindName X.env y .none; unbindBehindTheSuite X.env y pos') (fun _ s7 => Q s7) X.xe s6 := fun {σ6 H6 Q} S6 hq => gone_ok (of_suite S6 ok) nd hi hl hq
          cases f with
          | ret u =>
            obtain ⟨v6, σ6, H6, S6, r6, q6⟩ := q
            exact fin S6 fun s7 J7 => ⟨_, _, _, J7, r6, q6⟩
          | _ =>
            obtain ⟨σ6, H6, S6, q6⟩ := q
            exact fin S6 fun s7 J7 => ⟨_, _, J7, q6⟩
  · cases f with
    | next =>
      obtain ⟨σ6, H6, S6, q6⟩ := q
      exact wpAny_execs_nil ⟨_, _, S6.ofTry ok, q6⟩
    | ret u =>
      obtain ⟨v6, σ6, H6, S6, r6, q6⟩ := q
      exact ⟨_, _, _, S6.ofTry ok, r6, q6⟩
    | _ =>
      obtain ⟨σ6, H6, S6, q6⟩ := q
      exact ⟨_, _, S6.ofTry ok, q6⟩
end
section
variable {T : Tb} {F : Fi} {c : Cz} {W : Wx} {φ : Nm → Addr} {Mo : Addr → Prop} {s : St} {σ : L2.St} {H : Hp}
theorem suite_rel (rel : RelE c φ Mo s σ H) {k : Nat} {fs : List (Nat × D)} {cls : Value} {dx : Option Addr} (x : ExcR c φ Mo s H k fs cls dx) {a : Addr} (na : H a = none) :
    ∃ H' , H' = upd H a (ExH cls dx a) ∧ RelE c φ Mo s σ H' ∧ Fr φ Mo s H φ Mo s H' ∧ Rep c φ (Ms φ Mo s) H' s.sto.length (.exc k fs) (.ref a) := by
  have g := grow_frz (Mo := Mo) (o := ExH cls dx a) na
  have fr := g.fr (φ := φ) (s := s)
  refine ⟨_, rfl, rel.grow g, fr, x.1.2, a, dx, rfl, (frz_at rel na (o := ExH cls dx a)).1, ?_, x.2.1, fun hn => ?_⟩
  · rw [x.1.1]
    exact upd_same
  · obtain ⟨dd, us, e, n, ed, q⟩ := x.2.2 hn
    exact ⟨dd, us, e, n, g.keep dd _ ed, RepX.mv fr.mv _ _ q⟩
theorem try_to {b h : S} {k : Nat} {xi : Option Nat} {Dn : Ends} (hx : ∀ k', c.hx k' = true → PySem.W.exmOne c.K (.ref (c.ct k')) (.ref (c.ct k)) = some (T.sub k' k)) (q : tS c W (evS T F (.tryS b k xi h)) Dn σ H) :
    tS c (wT c.K (.ref (c.ct k)) xi (fun _ => tS c W0 (evS T F h)) W Dn) (evS T F b) Dn σ H := by
  obtain ⟨φ, Mo, s, rel, q⟩ := q
  refine ⟨φ, Mo, s, rel, ?_⟩
  rw [evS] at q
  cases e : evS T F b s with
  | nx s' =>
    rw [e] at q
    exact q
  | brk s' =>
    rw [e] at q
    exact q
  | cnt s' =>
    rw [e] at q
    exact q
  | ret d s' =>
    rw [e] at q
    exact q
  | stuck =>
    rw [e] at q
    exact q
  | exc k' fs s' =>
    rw [e] at q
    intro σ' cls dx φ' Mo' H' r f x
    have q : OutS c W φ Mo s H (if T.sub k' k then suiteF xi (evS T F h) (.exc k' fs) s' else .exc k' fs s') Dn := q
    refine ⟨T.sub k' k, by rw [x.1.1]; exact hx k' x.1.2, fun hb a na => ?_, fun hb => ?_⟩
    · rw [if_pos hb] at q
      obtain ⟨H2, rfl, r2, f2, rp⟩ := suite_rel r x na
      cases xi with
      | none =>
        have q : OutS c W φ Mo s H (suite0 (evS T F h s')) Dn := q
        refine ⟨φ', Mo', s', r2, ?_⟩
        have q := q.step (f.trans f2)
        cases e2 : evS T F h s' with
        | exc k2 fs2 s2 =>
          rw [e2] at q
          exact q.elim
        | stuck =>
          rw [e2] at q
          exact q.elim
        | _ =>
          rw [e2] at q
          exact q
      | some i =>
        have q : OutS c W φ Mo s H (suiteN i (evS T F h { s' with env := s'.env.set i (some (.exc k' fs)) })) Dn := q
        have s1 := r2.set1 i rp
        refine ⟨φ', Mo', _, s1.1, ?_⟩
        have q := q.step ((f.trans f2).trans s1.2)
        cases e2 : evS T F h { s' with env := s'.env.set i (some (.exc k' fs)) } with
        | exc k2 fs2 s2 =>
          rw [e2] at q
          exact q.elim
        | stuck =>
          rw [e2] at q
          exact q.elim
        | ret d s2 =>
          rw [e2] at q
          exact q
        | nx s2 =>
          rw [e2] at q
          exact fun σ3 φ3 Mo3 H3 r3 f3 => q _ φ3 Mo3 H3 (r3.clr2 i).1 (f3.trans (r3.clr2 i).2)
        | brk s2 =>
          rw [e2] at q
          exact fun σ3 φ3 Mo3 H3 r3 f3 => q _ φ3 Mo3 H3 (r3.clr2 i).1 (f3.trans (r3.clr2 i).2)
        | cnt s2 =>
          rw [e2] at q
          exact fun σ3 φ3 Mo3 H3 r3 f3 => q _ φ3 Mo3 H3 (r3.clr2 i).1 (f3.trans (r3.clr2 i).2)
    · rw [if_neg (by rw [hb]; exact Bool.false_ne_true)] at q
      exact q σ' cls dx φ' Mo' H' r f x
end
end TR
end

section
set_option Elab.async false
set_option linter.all false
set_option maxRecDepth 100000
set_option maxHeartbeats 4000000
set_option autoImplicit false
/-! TrRaise: raise, the __init__ of an exception with two fields. -/
namespace TR
open PySem L2 PySem.Spec PyProof.Rows
section
variable {X : Cx} {e : Expr} {es : List Expr} {ta : TA} {p1 p2 pos : Pos} {bn : Str} {C0 : Addr}
/-- B.__init__(self, ..), B an own class over ValueError -/
theorem pe_tinit {pl : Sem Bool} (B : TiC X.K C0) (hg : Gl X bn) (hd : (bn == ("__debug__" : Str)) = false) (hm : X.mg bn = some (.ref C0)) (ha : PA X (e :: es) ta)
    (hc : eval (.Call (.Attribute (.Name bn p1) "__init__" p2) (e :: es) [] pos) X.env = (do
      let ov ← eval (.Name bn p1) X.env
      standAt p2.atName
      let (f, first) ← holding [ov] (getMethod ov "__init__" pl)
      callWith pos f first (backTo pos (starEach (e :: es) X.env)) (backToKw pos (keywordEach [] X.env))))
    (he : starEach (e :: es) X.env = (false, eval e X.env) :: starEach es X.env) (hpl : (backTo pos (starEach es X.env)).any (·.1) = false) :
    PE X (.Call (.Attribute (.Name bn p1) "__init__" p2) (e :: es) [] pos) (tVeI X.K ta) := by
  refine ⟨fun pins s σ H Q I h => PySem.W.methodCall_KW (ld_glob I hg hm ?_ hd) hc⟩
  obtain ⟨m, fr⟩ := I.fr
  refine PySem.W.method_of_cls fr I.ok.mod.kin B.sg (PySem.W.cls_val fr I.ok.mod.kin B.ty B.rd B.fc (by decide +kernel) ?_)
  show wpAny _ _ (callWith pos (Value.builtin "ValueError.__init__") [] (backTo pos (starEach (e :: es) X.env)) []) _ _ _
  refine PyProof.Rows.callWith_method1 (thn (ha.run pos pins _ σ H _ (I.tok _) h) fun us s1 ⟨vs, H1, I1, r1, a, C, ws, ev, hl, T, ea, q⟩ => ?_) he hpl
  subst ev
  cases r1 with
  | @cons _ u0 _ ur ra rw' =>
    obtain rfl : u0 = Value.ref a := ra
    refine oinit_ok T I1 ea ?_ fun s' J => ⟨.non, H1, J, rfl, q⟩
    rw [← Paired.length rw', sizeLine_eq]
    omega
end
theorem swaps_n {x : Str} {q : Pos} {o : Expr} {f : Str} {p : Pos} {l : Nat} {env : Env} : swapsWith (.Name x q) (some (.Attribute o f p)) l env = pure false := rfl
/-- what the __init__ promises -/
def spI (C : Addr) (a1 a2 : Str) : Sp := fun vs H Q _ => ∃ a v1 v2, vs = [.ref a, v1, v2] ∧ H a = some (exo a C none) ∧ ∀ d, H d = none → d ≠ a → Q .non (upd (upd (upd H d (exd d [(a1, v1)])) a (exo a C (some d))) d (exd d [(a2, v2), (a1, v1)]))
section
variable {P : Program} {w : World} {K : PySem.W.Frag} {mg : Str → Option Value} {base : Heap} {C : Addr} {a1 a2 : Str} {fI : Addr} {fd : FuncData} {x qual : Str} {st : Stmt} {x0 x1 x2 bn : Str} {C0 : Addr}
theorem ini_ok (F : IniF K mg C a1 a2 fI fd x qual st x0 x1 x2 bn C0) (n1 : PySem.W.findIn K (.ref C) a1 = some none) (n2 : PySem.W.findIn K (.ref C) a2 = some none) (k : Nat) :
    FnOk P w K mg base (L2.CX P w) (k + 1) fI fd [x0, x1, x2] (spI C a1 a2) := by
  refine Fun.okX (k := k) F.fun_ F.sc (fun vs H Q E h => ?_) fun cdv A outer s H vs Q E hr hsp => ?_
  · obtain ⟨a, v1, v2, rfl, _⟩ := h
    rfl
  obtain ⟨a, v1, v2, rfl, ea, q⟩ := hsp
  obtain ⟨m, j, p1, p2, p3, p4, p5, p6, q1, q2, q3, q4, r1, r2, r3, r4, hl, eb⟩ := F.txt
  rw [eb]
  have va : ∀ {y : Str} {i : Nat} {p : Pos}, [x0, x1, x2][i]? = some y → vis (defScope st) y → PE (cxOf (L2.CX P w) P w K mg base [x0, x1, x2] qual (defScope st) fI cdv A outer s H E) (.Name y p) (tVar i) := fun hN hv => pe_var hN hv.1 hv.2.1 hv.2.2
  have s0 := star_cons (e := .Name x0 p3) (es := [.Constant (.str m) j p4]) (env := (cxOf (L2.CX P w) P w K mg base [x0, x1, x2] qual (defScope st) fI cdv A outer s H E).env) rfl
  refine ⟨_, pss_cons (ps_expr (pe_tinit F.base F.gb.1 F.gb.2 F.mb (pa_cons (va (i := 0) rfl F.v0) (pa_cons pe_str pa_nil))
    (mcall_ok (fun y hy => ?_) ?_ ?_ hl) s0 ?_) rfl) (pss_cons (ps_ost (va (i := 0) rfl F.v0) (va (i := 1) rfl F.v1) ?_) (pss_cons (ps_ost (va (i := 0) rfl F.v0) (va (i := 2) rfl F.v2) ?_) pss_nil)), ?_⟩
  · exact List.mem_cons.mp (by rw [s0] at hy; exact hy) |>.elim (fun z => by rw [z]) fun z => by
      rw [star_cons (e := .Constant (.str m) j p4) (es := []) rfl] at z
      rcases List.mem_cons.mp z with z | z
      · rw [z]
      · cases z
  · simp
  · exact trivial
  · rw [star_cons (e := .Constant (.str m) j p4) (es := []) rfl]
    rfl
  · exact swaps_n
  · exact swaps_n
  · refine ⟨.ref a, rfl, a, C, [.str m], rfl, by simp, F.oex, ea, ?_⟩
    refine ⟨v1, rfl, .ref a, rfl, a, C, rfl, F.oex, n1, .inl ⟨ea, fun d hd ne => ?_⟩⟩
    refine ⟨v2, rfl, .ref a, rfl, a, C, rfl, F.oex, n2, .inr ⟨d, [(a1, v1)], upd_same, ?_, by simp, q d hd ne⟩⟩
    rw [upd_ne ne, upd_same]
end
section
variable {T : Tb} {F : Fi} {c : Cz} {n : Nms} {N : List Str} {W : Wx} {X : Cx} {a : E} {σ : L2.St} {H : Hp} {Dn : Ends} {k0 : Nat}
theorem raise_fl {Q : List V → Hp → Prop} {r : List D → St → Fl} {φ : Nm → Addr} {Mo : Addr → Prop} {s : St} (rel : RelE c φ Mo s σ H) (h : OutS c W φ Mo s H ((evA T F a s).fl r) Dn)
    (q : ∀ ds vs φ2 Mo2 s2 H2, ds.length = alen a → PostE c (a.calm T) σ φ Mo s H φ2 Mo2 s2 H2 → RepL c φ2 (Ms φ2 Mo2 s2) H2 s2.sto.length ds vs → OutS c W φ Mo s H (r ds s2) Dn → Q vs H2) : TA' T F c W a σ H Q := by
  refine ⟨φ, Mo, s, rel, ?_⟩
  cases e : evA T F a s with
  | stuck =>
    rw [e] at h
    exact h.elim
  | exc k fs s2 =>
    rw [e] at h
    exact fun cls dx φ2 Mo2 H2 P x => h σ cls dx φ2 Mo2 H2 P.rel P.fr x
  | ok ds s2 =>
    rw [e] at h
    exact fun vs φ2 Mo2 H2 P r => q ds vs φ2 Mo2 s2 H2 (evA_len e) P r h
theorem raise_to0 (hx : c.hx k0 = true) (e0 : T.exn k0 = some []) (hl : alen a ≤ 1000) (h : tS c W (evS T F (.raise k0 a)) Dn σ H) : TA' T F c W a σ H fun vs H1 => vs.length ≤ sizeLine ∧ W (.ref (c.ct k0)) none σ H1 := by
  obtain ⟨φ, Mo, s, rel, h⟩ := h
  rw [evS] at h
  refine raise_fl rel h fun ds vs φ2 Mo2 s2 H2 e P r h2 => ⟨?_, ?_⟩
  · rw [r.length, e]
    exact Nat.le_trans hl (by decide)
  · rw [e0] at h2
    have h2 : OutS c W φ Mo s H (.exc k0 [] s2) Dn := by
      have : (if ([] : List Nat) = [] ∨ ([] : List Nat).length = ds.length then Fl.exc k0 (([] : List Nat).zip ds) s2 else .stuck) = .exc k0 [] s2 := if_pos (.inl rfl)
      rw [← this]
      exact h2
    exact h2 σ _ none φ2 Mo2 H2 P.rel P.fr ⟨⟨rfl, hx⟩, fun _ => rfl, fun z => absurd rfl z⟩
theorem repX_two {φ : Nm → Addr} {M : Addr → Prop} {L : Nat} {f1 f2 : Nat} {d1 d2 : D} {v1 v2 : V} (ne : c.an f1 ≠ c.an f2) (r1 : Rep c φ M H L d1 v1) (r2 : Rep c φ M H L d2 v2) : RepX c φ M H L [(f1, d1), (f2, d2)] [(c.an f2, v2), (c.an f1, v1)] := by
  refine ⟨⟨v1, ?_, r1⟩, ⟨v2, ?_, r2⟩, trivial⟩
  · rw [List.lookup_cons, show (c.an f1 == c.an f2) = false from by simpa using ne]
    exact List.lookup_cons_self
  · exact List.lookup_cons_self
theorem raise_to2 {f1 f2 : Nat} (hx : c.hx k0 = true) (e0 : T.exn k0 = some [f1, f2]) (ne : c.an f1 ≠ c.an f2) (hl : alen a ≤ 1000) (h : tS c W (evS T F (.raise k0 a)) Dn σ H) :
    tMkO (c.ct k0) (spI (c.ct k0) (c.an f1) (c.an f2)) [] (TA' T F c W a) σ H fun cls d H1 => W cls d σ H1 := by
  obtain ⟨φ, Mo, s, rel, h⟩ := h
  rw [evS] at h
  refine raise_fl rel h fun ds vs φ2 Mo2 s2 H2 e P r h2 => ⟨?_, fun b hb => ?_⟩
  · rw [r.length, e]
    exact hl
  · rw [e0] at h2
    have h2 : OutS c W φ Mo s H (if [f1, f2] = [] ∨ [f1, f2].length = ds.length then Fl.exc k0 ([f1, f2].zip ds) s2 else .stuck) Dn := h2
    by_cases hds : ds.length = 2
    · rw [if_pos (.inr hds.symm)] at h2
      match ds, hds, r, h2 with
      | [d1, d2], _, r, h2 =>
        obtain ⟨v1, _, rfl, r1, v2, _, rfl, r2, rfl⟩ := r
        refine ⟨b, v1, v2, rfl, upd_same, fun d hd hne => ⟨rfl, d, [(c.an f2, v2), (c.an f1, v1)], ?_, upd_same, ?_, ?_⟩⟩
        · rw [upd_ne (Ne.symm hne), upd_same]
        · rw [upd_ne hne] at hd
          exact hd
        · rw [upd_ne hne] at hd
          have eH : upd (L2.del (upd (upd (upd (upd H2 b (exo b (c.ct k0) none)) d (exd d [(c.an f1, v1)])) b (exo b (c.ct k0) (some d))) d (exd d [(c.an f2, v2), (c.an f1, v1)])) b) d (.xd [(c.an f2, v2), (c.an f1, v1)]) = upd H2 d (.xd [(c.an f2, v2), (c.an f1, v1)]) := by
            funext y
            by_cases h1 : y = d
            · rw [h1, upd_same, upd_same]
            · rw [upd_ne h1, upd_ne h1]
              by_cases h3 : y = b
              · rw [h3, L2.del_same, hb]
              · rw [L2.del_ne h3, upd_ne h1, upd_ne h3, upd_ne h1, upd_ne h3]
          rw [eH]
          have g := grow_frz (Mo := Mo2) (o := .xd [(c.an f2, v2), (c.an f1, v1)]) hd
          have fr := g.fr (φ := φ2) (s := s2)
          refine h2 σ _ _ φ2 Mo2 _ (P.rel.grow g) (P.fr.trans fr) ⟨⟨rfl, hx⟩, fun z => (by cases z), fun _ => ⟨d, _, rfl, (frz_at P.rel hd (o := .xd [(c.an f2, v2), (c.an f1, v1)])).1, upd_same, repX_two ne (Rep.mv fr.mv _ _ r1) (Rep.mv fr.mv _ _ r2)⟩⟩
    · rw [if_neg fun z => z.elim (fun z => by cases z) fun z => hds z.symm] at h2
      exact h2.elim
/-- raise -/
theorem snd_raise {sc : Scope} {k : Nat} {e : Expr} {es : List Expr} {p q pos : Pos} (G : Gd T F c n N sc W k X false) (tk : Takes X W) (hxk : c.hr k0 = true) (hg : gl sc (n.cn k0)) (A : Args T F c W X a (e :: es)) (hl : alen a ≤ 1000) :
    PS X (.Raise (some (.Call (.Name (n.cn k0) p) (e :: es) [] q)) none pos) (tS c W (evS T F (.raise k0 a))) := by
  have hs := A.tail q
  have hsc := G.sc_
  subst hsc
  cases h0 : T.exn k0 with
  | none => exact absurd h0 (G.st.exnS k0 hxk)
  | some ns =>
    cases ns with
    | nil =>
      obtain ⟨hx, h1, h2⟩ := G.st.exn0 k0 h0
      have ef := G.st.exf k0 hx
      refine PS.mono (ps_raise (G.calm rfl) tk (pmk_ownA PySem.F.excBase_ValueError (by rw [G.K_]; exact h1) ef.glo (by rw [G.K_]; exact h2) (raises_own (by rw [G.K_]; exact ef.xf.exC) (by rw [G.K_]; exact ef.ty)) hg.1 A.pa hg.2 hs.1 hs.2)) fun D σ H h => ?_
      exact raise_to0 hx h0 hl h
    | cons f fs =>
      obtain ⟨hx, f1, f2, e2, ha1, ha2, ne, fI, fd, x, qual, st, x0, x1, x2, bn, C0, F0⟩ := G.st.exn2 k0 _ h0 (by intro z; cases z)
      have ef := G.st.exf k0 hx
      rw [e2] at h0
      obtain ⟨k', rfl⟩ : ∃ k', k = k' + 1 := ⟨k - 1, by have := G.kp; omega⟩
      have hK := G.K_
      have f1' : FnOk X.prog X.w X.K X.mg X.base (L2.CX X.prog X.w) (k' + 1) fI fd [x0, x1, x2] (spI (c.ct k0) (c.an f1) (c.an f2)) := by
        rw [hK]
        exact ini_ok F0 (ef.noat f1 ha1) (ef.noat f2 ha2) k'
      refine PS.mono (ps_raise (G.calm rfl) tk (pmk_oex (ds := []) (dvs := []) (by rw [hK]; exact F0.oex) (by rw [hK]; exact F0.at_) (by rw [hK]; exact F0.tyI) f1' (G.room rfl) (by rw [hK]; exact F0.bind) .nil passL hg.1 ef.glo A.pa hg.2 hs.1 hs.2)) fun D σ H h => ?_
      exact raise_to2 hx h0 ne hl h
end
end TR
end

section
set_option Elab.async false
set_option linter.all false
set_option maxRecDepth 100000
set_option autoImplicit false
/-! TrStm6: every statement does what the evaluator says. -/
namespace TR
open PySem L2
section
variable {T : Tb} {F : Fi} {c : Cz} {n : Nms} {N : List Str} {k : Nat}
theorem swaps_ff {e : Expr} {t : Option Expr} {l : Nat} {env : Env} (h : isLc e = false) : swapsWith e t l env = pure false := by
  cases e <;> first | rfl | cases h
theorem swaps_sub {e o i : Expr} {p : Pos} {l : Nat} {env : Env} : swapsWith e (some (.Subscript o i p)) l env = pure false := by
  cases e <;> rfl
theorem swaps_att {e o : Expr} {f : Str} {p : Pos} {l : Nat} {env : Env} : swapsWith e (some (.Attribute o f p)) l env = pure false := by
  cases e <;> rfl
theorem swaps_tup {e : Expr} {es : List Expr} {q : Nat} {p : Pos} {l : Nat} {env : Env} (h : isLc e = false) : swapsWithSole [.Tuple es q p] e l env = pure false := by
  show swapsWith e (some (.Tuple es q p)) l env = pure false
  exact swaps_ff h
theorem swaps_subS {e o i : Expr} {p : Pos} {l : Nat} {env : Env} : swapsWithSole [.Subscript o i p] e l env = pure false := by
  show swapsWith e (some (.Subscript o i p)) l env = pure false
  exact swaps_sub
theorem sstores_ff {e t : Expr} {env : Env} (h : (∀ a b c, e ≠ .Tuple a b c)) : swappedStores [t] e env = pure none := by
  cases e <;> first | (exact absurd rfl (h _ _ _)) | (cases t <;> rfl)
theorem sstores_sub {e o i : Expr} {p : Pos} {env : Env} : swappedStores [.Subscript o i p] e env = pure none := by
  cases e <;> rfl
theorem hotS_no {hot : Bool} {e : S} (h : hot = true → hotS c.hs e = true) (he : hotS c.hs e = false) : hot = false := by
  cases hot with
  | false => rfl
  | true => rw [he] at h; cases h rfl
/-- what a try and a raise need -/
structure GdS (W : Wx) (X : Cx) : Prop where
  stack : X.stack = X.env :: X.outer
  frame : X.env.frame = some X.env.locals
  ex : X.ex = []
  tk : Takes X W
theorem Gd.tr {sc : Scope} {W W' : Wx} {X : Cx} (G : Gd T F c n N sc W k X false) {pn : List (Addr × Obj)} {xe : Value → Shared → Prop} (tk : Takes (X.tr pn xe) W') (po : PassesOwn (model X.prog X.w) X.A X.env xe) : Gd T F c n N sc W' k (X.tr pn xe) false where
  K_ := G.K_
  N_ := G.N_
  nd := G.nd
  sc_ := G.sc_
  kind := G.kind
  units := G.units
  kp := G.kp
  calm := G.calm
  room := G.room
  pas := fun _ σ => passAt tk σ
  own := fun _ => po
  w0 := fun z => by cases z
  roomH := G.roomH
  hok := G.hok
  fok := fun _ => G.fok rfl
  st := G.st
theorem Gd.suite {sc : Scope} {W : Wx} {X : Cx} (G : Gd T F c n N sc W k X false) (a : Addr) (pn : List (Addr × Obj)) : Gd T F c n N sc W0 k (suiteX X a pn) true where
  K_ := G.K_
  N_ := G.N_
  nd := G.nd
  sc_ := G.sc_
  kind := G.kind
  units := G.units
  kp := G.kp
  calm := fun z => by cases z
  room := fun z => by cases z
  pas := fun z => by cases z
  own := fun z => by cases z
  w0 := fun _ => rfl
  roomH := ⟨G.roomH.dp, G.roomH.un⟩
  hok := G.hok
  fok := fun z => by cases z
  st := G.st
def SS (T : Tb) (F : Fi) (c : Cz) (n : Nms) (N : List Str) (k : Nat) (ir : S) : Prop := ∀ (hot : Bool) (sc : Scope) (W : Wx) (X : Cx), Gd T F c n N sc W k X hot → (hot = true → hotS c.hs ir = true) → (hot = false → GdS W X) → (∀ x, sc.names.lookup x = some .cell → X.fn x = true) →
  (∀ st, IsS1 c n N sc ir st → PS X st (tS c W (evS T F ir))) ∧ (∀ sts, IsB c n N sc ir sts → PSs X sts (tS c W (evS T F ir)))
theorem tS_nx {W : Wx} {σ : L2.St} {H : Hp} {Dn : Ends} (h : tS c W (fun s => .nx s) Dn σ H) : Dn.nx σ H := by
  obtain ⟨φ, Mo, s, rel, h⟩ := h
  exact h σ φ Mo H rel Fr.refl
theorem tS_eq {W : Wx} {r r' : St → Fl} (h : ∀ s, r s = r' s) : tS c W r = tS c W r' := by rw [show r = r' from funext h]
theorem snd_stm : ∀ ir : S, SS T F c n N k ir := by
  intro ir
  induction ir with
  | skip =>
    refine fun hot sc W X G hh hst hfn => ⟨fun st h => ?_, fun sts h => ?_⟩
    · rcases h with ⟨x, j, p, p', rfl⟩ | ⟨p, rfl⟩
      · exact PS.mono ps_doc fun D σ H h => tS_nx h
      · exact PS.mono ps_pass fun D σ H h => tS_nx h
    · rw [show sts = [] from h]
      exact PSs.mono pss_nil fun D σ H h => tS_nx h
  | seq a b iha ihb =>
    refine fun hot sc W X G hh hst hfn => ⟨fun st h => h.elim, fun sts h => ?_⟩
    obtain ⟨st, rest, rfl, h1, h2⟩ := h
    refine PSs.mono (pss_cons ((iha hot sc W X G (fun q => by have := hh q; simp only [hotS, Bool.and_eq_true] at this; simp only [this]) hst hfn).1 st h1) ((ihb hot sc W X G (fun q => by have := hh q; simp only [hotS, Bool.and_eq_true] at this; simp only [this]) hst hfn).2 rest h2)) fun D σ H h => ?_
    exact seq_to h
  | asg i e =>
    refine fun hot sc W X G hh hst hfn => ⟨fun st h => ?_, fun sts h => h.elim⟩
    obtain ⟨x, px, ee, p, rfl, hx, he, h | ⟨hl, hp, elt, tg, ow, sk, a, cond, rfl, ha⟩⟩ := h
    · obtain ⟨hl, hs⟩ := h
      have pe := ((snd_all e).1 hot sc W X ee G (fun q => by have := hh q; simp only [hotS, Bool.and_eq_true] at this; simp only [this]) he).pe
      have hN : X.N[i]? = some x := by rw [G.N_]; exact hx
      have nd : X.N.Nodup := by rw [G.N_]; exact G.nd
      have hsc := G.sc_
      subst hsc
      rcases hs with hs | ⟨_, hs⟩
      · exact PS.mono (ps_set nd hN (.inl hs) pe (swaps_ff hl) (.inr hs)) fun D σ H h => asg_to h
      · exact PS.mono (ps_set nd hN (.inr hs) pe (swaps_ff hl) (.inl (hfn x hs))) fun D σ H h => asg_to h
    · obtain rfl := hot_no (e := .lc elt tg ow sk a cond) (fun q => hh q) rfl
      obtain ⟨ee', et, it, ifs, sc', p', own, rfl, how, h2, L⟩ := lc_ok (snd_all elt).1 (snd_all a).2.2 (snd_all cond).1 G he
      have hN : X.N[i]? = some x := by rw [G.N_]; exact hx
      have nd : X.N.Nodup := by rw [G.N_]; exact G.nd
      have hsc := G.sc_
      subst hsc
      refine PS.mono (ps_setLc (G.calm rfl) nd hN hl (sw_true G.kind hl hp ha) L.pi L.ok L.hg L.ht L.he L.hs) fun D σ H h => ?_
      have h : TE' T F c W (.lc elt tg ow sk a cond) σ H fun v H1 => gName i v σ H1 D.nx := asg_to h
      rw [← how]
      exact lc_to h2 h
  | asgT is e =>
    refine fun hot sc W X G hh hst hfn => ⟨fun st h => ?_, fun sts h => h.elim⟩
    obtain rfl := hotS_no hh rfl
    obtain ⟨es, kk, q, ee, p, rfl, h1, hl, hnt, he⟩ := h
    have pe := ((snd_all e).1 false sc W X ee G (fun q => by cases q) he).pe
    have pg : PG X (.Tuple es kk q) (gT c.K (.many is)) := pg_T (own := true) (G.calm rfl) G.K_ G.N_ G.nd G.sc_ (fun _ => hfn) ⟨es, kk, q, rfl, h1⟩
    exact PS.mono (ps_asg pe pg (swaps_tup hl) (sstores_ff hnt)) fun D σ H h => fr_asgT h
  | setIx a i e =>
    refine fun hot sc W X G hh hst hfn => ⟨fun st h => ?_, fun sts h => h.elim⟩
    obtain ⟨ea, ei, ee, q, p, rfl, h1, h2, h3⟩ := h
    have pa := ((snd_all a).1 hot sc W X ea G (fun q => by have := hh q; simp only [hotS, Bool.and_eq_true] at this; simp only [this]) h1).pe
    have pi := ((snd_all i).1 hot sc W X ei G (fun q => by have := hh q; simp only [hotS, Bool.and_eq_true] at this; simp only [this]) h2).pe
    have pe := ((snd_all e).1 hot sc W X ee G (fun q => by have := hh q; simp only [hotS, Bool.and_eq_true] at this; simp only [this]) h3).pe
    have hp := h2.plain
    have hu := units_of G
    refine PS.mono (ps_asg pe (pg_sub pa pi (set_both (by omega)) ?_) swaps_subS sstores_sub) fun D σ H h => setIx_to h
    intro v
    cases ei <;> first | rfl | cases hp
  | setFld a f e =>
    refine fun hot sc W X G hh hst hfn => ⟨fun st h => ?_, fun sts h => h.elim⟩
    obtain ⟨ea, ee, q, p, rfl, hf, h1, h2⟩ := h
    have pa := ((snd_all a).1 hot sc W X ea G (fun q => by have := hh q; simp only [hotS, Bool.and_eq_true] at this; simp only [this]) h1).pe
    have pe := ((snd_all e).1 hot sc W X ee G (fun q => by have := hh q; simp only [hotS, Bool.and_eq_true] at this; simp only [this]) h2).pe
    refine PS.mono (ps_fld pa pe swaps_att) fun D σ H h => ?_
    exact setFld_to G.st.anin hf (fun k hk => by rw [G.K_]; exact ⟨(G.st.cls k hk).1, G.st.natt k f hk hf⟩) h
  | expr e =>
    refine fun hot sc W X G hh hst hfn => ⟨fun st h => ?_, fun sts h => h.elim⟩
    obtain ⟨ee, p, rfl, hl, h1⟩ := h
    exact PS.mono (ps_expr ((snd_all e).1 hot sc W X ee G (fun q => by have := hh q; simp only [hotS, Bool.and_eq_true] at this; simp only [this]) h1).pe (swaps_ff hl)) fun D σ H h => expr_to h
  | ret e =>
    refine fun hot sc W X G hh hst hfn => ⟨fun st h => ?_, fun sts h => h.elim⟩
    rcases h with ⟨ee, p, rfl, h1⟩ | ⟨rfl, p, rfl⟩
    · exact PS.mono (ps_ret ((snd_all e).1 hot sc W X ee G (fun q => by have := hh q; simp only [hotS, Bool.and_eq_true] at this; simp only [this]) h1).pe) fun D σ H h => ret_to h
    · refine PS.mono ps_retN fun D σ H h => ?_
      obtain ⟨φ, Mo, s, rel, h⟩ := h
      exact h .non φ Mo H trivial rel.toRel Fr.refl.r rfl fun q => by cases q
  | ifs t a b iha ihb =>
    refine fun hot sc W X G hh hst hfn => ⟨fun st h => ?_, fun sts h => h.elim⟩
    obtain ⟨tt, et, ba, bb, p, rfl, h0, h1, h2⟩ := h
    refine PS.mono (ps_if (((snd_all t).1 hot sc W X et G (fun q => by have := hh q; simp only [hotS, Bool.and_eq_true] at this; simp only [this]) h0).pt tt) ((iha hot sc W X G (fun q => by have := hh q; simp only [hotS, Bool.and_eq_true] at this; simp only [this]) hst hfn).2 ba h1) ((ihb hot sc W X G (fun q => by have := hh q; simp only [hotS, Bool.and_eq_true] at this; simp only [this]) hst hfn).2 bb h2)) fun D σ H h => ?_
    exact if_to h
  | whl t b ihb =>
    refine fun hot sc W X G hh hst hfn => ⟨fun st h => ?_, fun sts h => h.elim⟩
    obtain rfl := hotS_no hh rfl
    obtain ⟨tt, et, bb, p, rfl, h0, h1⟩ := h
    exact PS.mono (ps_while (G.own rfl) (((snd_all t).1 false sc W X et G (fun q => by cases q) h0).pt tt) ((ihb false sc W X G (fun q => by cases q) hst hfn).2 bb h1)) fun D σ H h => while_to h
  | fors tg sk a b ihb =>
    refine fun hot sc W X G hh hst hfn => ⟨fun st h => ?_, fun sts h => h.elim⟩
    obtain rfl := hotS_no hh rfl
    obtain ⟨et, it, bb, p, rfl, h0, h1, h2⟩ := h
    have pg := pg_T (G.calm rfl) G.K_ G.N_ G.nd G.sc_ (fun _ => hfn) h0
    have hi := (snd_all a).2.2 sc W X sk tg et it G h1 fun is e => by
      subst e
      obtain ⟨es, kk, tp, e, _⟩ := h0
      exact ⟨es, kk, tp, e⟩
    exact PS.mono (ps_for (G.own rfl) (G.calm rfl) hi.1 pg ((ihb false sc W X G (fun q => by cases q) hst hfn).2 bb h2) (folded hi.2)) fun D σ H h => for_to h
  | brk =>
    refine fun hot sc W X G hh hst hfn => ⟨fun st h => ?_, fun sts h => h.elim⟩
    obtain ⟨p, rfl⟩ := h
    refine PS.mono ps_break fun D σ H h => ?_
    obtain ⟨φ, Mo, s, rel, h⟩ := h
    exact h σ φ Mo H rel Fr.refl
  | cnt =>
    refine fun hot sc W X G hh hst hfn => ⟨fun st h => ?_, fun sts h => h.elim⟩
    obtain ⟨p, rfl⟩ := h
    refine PS.mono ps_continue fun D σ H h => ?_
    obtain ⟨φ, Mo, s, rel, h⟩ := h
    exact h σ φ Mo H rel Fr.refl
  | raise k0 a =>
    refine fun hot sc W X G hh hst hfn => ⟨fun st h => ?_, fun sts h => h.elim⟩
    obtain rfl := hotS_no hh rfl
    obtain ⟨hx, e, es, p, q, pos, rfl, hl, hg, h1⟩ := h
    have A := (snd_all a).2.1 false sc W X (e :: es) G (fun q => by cases q) h1
    exact snd_raise G (hst rfl).tk hx hg (A.args hl) (by rw [← A.len]; omega)
  | tryS b k0 xi h ihb ihh =>
    refine fun hot sc W X G hh hst hfn => ⟨fun st h => ?_, fun sts h => h.elim⟩
    obtain rfl := hotS_no hh rfl
    obtain ⟨hhot, hx, body, np, xn, b0, suite, pos', pos, rfl, hg, hn, h1, h2⟩ := h
    have S := hst rfl
    have hsc := G.sc_
    subst hsc
    have nm : nmAt X xn xi := by
      cases xn <;> cases xi <;> first | exact hn | (exact ⟨by rw [G.N_]; exact hn.1, hn.2⟩)
    refine PS.mono (ps_tryT (cv := .ref (c.ct k0)) (tb := fun W' => tS c W' (evS T F b)) (ts := fun _ => tS c W0 (evS T F h)) S.stack S.frame S.ex (by rw [G.N_]; exact G.nd) nm ⟨hg.1, hg.2, .inl (G.st.exf k0 hx).glo⟩ S.tk (fun W' pn xe tk po => ?_) fun a pn => ?_) fun D σ H q => ?_
    · exact (ihb false _ W' (X.tr pn xe) (G.tr tk po) (fun q => by cases q) (fun _ => ⟨S.stack, S.frame, S.ex, tk⟩) hfn).2 body h1
    · exact (ihh true _ W0 (suiteX X a pn) (G.suite a pn) (fun _ => hhot) (fun q => by cases q) hfn).2 (b0 :: suite) h2
    · rw [G.K_]
      exact try_to (fun k' hk' => G.st.exm k' k0 hk' hx) q
end
end TR
end

section
set_option Elab.async false
set_option linter.all false
set_option maxRecDepth 100000
set_option autoImplicit false
/-! TrDeep: what leaves a function that sees no old cell: a tree. -/
namespace TR
open PySem L2
section
variable {c : Cz} {φ φ2 : Nm → Addr} {Mo2 M : Addr → Prop} {s2 : St} {H2 : Hp} {n : Nat}
/-- what is known behind the function: M is what may change outside -/
structure DeepOk (c : Cz) (φ φ2 : Nm → Addr) (Mo2 M : Addr → Prop) (s2 : St) (H2 : Hp) (n : Nat) : Prop where
  rel : Rel c φ2 Mo2 s2 H2
  ms : ∀ a, ¬ Ms φ2 Mo2 s2 a → ¬ M a
  act : ∀ nm d, (∀ i, nm ≠ .slot i) → Act s2 nm d → ¬ M (φ2 nm)
  cell : ∀ m, m < n → φ2 (.cell m) = φ (.cell m)
theorem mapM_cons {α β : Type} {f : α → Option β} {x : α} {xs : List α} {ys : List β} (h : (x :: xs).mapM f = some ys) : ∃ y zs, f x = some y ∧ xs.mapM f = some zs ∧ ys = y :: zs := by
  rw [List.mapM_cons] at h
  cases e : f x with
  | none =>
    rw [e] at h
    cases h
  | some y =>
    rw [e] at h
    cases e2 : xs.mapM f with
    | none =>
      rw [e2] at h
      cases h
    | some zs =>
      rw [e2] at h
      cases h
      exact ⟨y, zs, rfl, rfl, rfl⟩
theorem mapM_nil {α β : Type} {f : α → Option β} {ys : List β} (h : ([] : List α).mapM f = some ys) : ys = [] := by
  rw [List.mapM_nil] at h
  cases h
  rfl
section
variable {f : D → Option D} (ih : ∀ d v d', Rep c φ2 (Ms φ2 Mo2 s2) H2 s2.sto.length d v → f d = some d' → Rep c φ M H2 n d' v)
include ih
theorem deepL : ∀ {ds : List D} {vs : List V} {ds' : List D}, RepL c φ2 (Ms φ2 Mo2 s2) H2 s2.sto.length ds vs → ds.mapM f = some ds' → RepL c φ M H2 n ds' vs
  | [], vs, ds', r, h => by
    rw [mapM_nil h]
    exact r
  | d :: ds, vs, ds', r, h => by
    obtain ⟨v, ws, rfl, r1, r2⟩ := r
    obtain ⟨y, zs, h1, h2, rfl⟩ := mapM_cons h
    exact ⟨v, ws, rfl, ih d v y r1 h1, deepL r2 h2⟩
theorem deepK : ∀ {ds : List (Tx × D)} {vs : List (Key × V)} {ds' : List (Tx × D)}, RepK c φ2 (Ms φ2 Mo2 s2) H2 s2.sto.length ds vs → (ds.mapM fun p => (f p.2).map fun d => (p.1, d)) = some ds' → RepK c φ M H2 n ds' vs
  | [], vs, ds', r, h => by
    rw [mapM_nil h]
    exact r
  | (k, d) :: ds, vs, ds', r, h => by
    obtain ⟨hk, v, ws, rfl, r1, r2⟩ := r
    obtain ⟨y, zs, h1, h2, rfl⟩ := mapM_cons h
    rw [Option.map_eq_some_iff] at h1
    obtain ⟨d', h1, rfl⟩ := h1
    exact ⟨hk, v, ws, rfl, ih d v d' r1 h1, deepK r2 h2⟩
theorem deepFs : ∀ {ds : List (Nat × D)} {vs : List (Str × V)} {ds' : List (Nat × D)}, RepF c φ2 (Ms φ2 Mo2 s2) H2 s2.sto.length ds vs → (ds.mapM fun p => (f p.2).map fun d => (p.1, d)) = some ds' → RepF c φ M H2 n ds' vs
  | [], vs, ds', r, h => by
    rw [mapM_nil h]
    exact r
  | (k, d) :: ds, vs, ds', r, h => by
    obtain ⟨hk, v, ws, rfl, r1, r2⟩ := r
    obtain ⟨y, zs, h1, h2, rfl⟩ := mapM_cons h
    rw [Option.map_eq_some_iff] at h1
    obtain ⟨d', h1, rfl⟩ := h1
    exact ⟨hk, v, ws, rfl, ih d v d' r1 h1, deepFs r2 h2⟩
end
theorem mem_of_lookup {fs : List (Nat × D)} {f : Nat} {d : D} (nd : (fs.map (·.1)).Nodup) (h : (f, d) ∈ fs) : fs.lookup f = some d := mem_lookup nd h
theorem deep_rep (K : DeepOk c φ φ2 Mo2 M s2 H2 n) : ∀ (k : Nat) (d : D) (v : V) (d' : D), Rep c φ2 (Ms φ2 Mo2 s2) H2 s2.sto.length d v → deep s2.sto n k d = some d' → Rep c φ M H2 n d' v := by
  intro k
  induction k with
  | zero =>
    intro d v d' r h
    cases h
  | succ k ih =>
    intro d v d' r h
    cases d with
    | loc m =>
      obtain ⟨hm, rfl⟩ := r
      have h : (if m < n then some (.loc m) else (match s2.sto[m]? with
        | some (.olst ds) => (ds.mapM (deep s2.sto n k)).map .lst
        | some (.odct kvs) => (kvs.mapM fun p => (deep s2.sto n k p.2).map fun d => (p.1, d)).map .dct
        | some (.oobj c fs) => (fs.mapM fun p => (deepF (deep s2.sto n k) p.2).map fun d => (p.1, d)).map (.obj c)
        | _ => none)) = some d' := h
      by_cases hl : m < n
      · rw [if_pos hl] at h
        cases h
        exact ⟨hl, by rw [K.cell m hl]⟩
      · rw [if_neg hl] at h
        cases e : s2.sto[m]? with
        | none =>
          rw [e] at h
          cases h
        | some x =>
          rw [e] at h
          have own0 : owned x = true → x ≠ .hid → Act s2 (.cell m) x := fun ho hx => ⟨own_iff.mpr ⟨e, ho⟩, hx⟩
          cases x with
          | olst ds =>
            have a0 := own0 rfl (by intro z; cases z)
            obtain ⟨vs, e1, r1⟩ := K.rel.cnt _ _ a0
            have h : (ds.mapM (deep s2.sto n k)).map D.lst = some d' := h
            rw [Option.map_eq_some_iff] at h
            obtain ⟨ds', h1, rfl⟩ := h
            exact ⟨_, vs, rfl, K.act _ _ (fun i z => by cases z) a0, e1, deepL ih r1 h1⟩
          | odct kvs =>
            have a0 := own0 rfl (by intro z; cases z)
            obtain ⟨vs, e1, r1⟩ := K.rel.cnt _ _ a0
            have h : (kvs.mapM fun p => (deep s2.sto n k p.2).map fun d => (p.1, d)).map D.dct = some d' := h
            rw [Option.map_eq_some_iff] at h
            obtain ⟨ds', h1, rfl⟩ := h
            exact ⟨_, vs, rfl, K.act _ _ (fun i z => by cases z) a0, .inl e1, deepK ih r1 h1⟩
          | oobj k0 fs =>
            have a0 := own0 rfl (by intro z; cases z)
            obtain ⟨hk, nd, dx, us, e1, r1⟩ := K.rel.cnt _ _ a0
            have h : (fs.mapM fun p => (deepF (deep s2.sto n k) p.2).map fun d => (p.1, d)).map (D.obj k0) = some d' := h
            rw [Option.map_eq_some_iff] at h
            obtain ⟨fs', h1, rfl⟩ := h
            refine ⟨hk, _, dx, us, rfl, K.act _ _ (fun i z => by cases z) a0, e1, ?_⟩
            -- the fields
            have key : ∀ {gs : List (Nat × D)} {ws : List (Str × V)} {gs' : List (Nat × D)}, (∀ p ∈ gs, fs.lookup p.1 = some p.2) → RepO c φ2 (Ms φ2 Mo2 s2) H2 s2.sto.length (.cell m) gs ws → (gs.mapM fun p => (deepF (deep s2.sto n k) p.2).map fun d => (p.1, d)) = some gs' → RepF c φ M H2 n gs' ws := by
              intro gs
              induction gs with
              | nil =>
                intro ws gs' _ r h
                rw [mapM_nil h]
                exact r
              | cons p gs ihg =>
                obtain ⟨g, d0⟩ := p
                intro ws gs' hmem r h
                obtain ⟨hg, w, ws', rfl, r0, t⟩ := r
                obtain ⟨y, zs, q1, q2, rfl⟩ := mapM_cons h
                rw [Option.map_eq_some_iff] at q1
                obtain ⟨d1, q1, rfl⟩ := q1
                refine ⟨hg, w, ws', rfl, ?_, ihg (fun p hp => hmem p (List.mem_cons_of_mem _ hp)) t q2⟩
                have q1 : deepF (deep s2.sto n k) d0 = some d1 := q1
                have el : fs.lookup g = some d0 := hmem _ List.mem_cons_self
                by_cases ho : owned d0 = true
                · rw [if_pos ho] at r0
                  obtain ⟨m', em, ew⟩ := r0
                  cases em
                  have ow : own s2 (.fld m g) = some d0 := by
                    refine own_iff.mpr ⟨?_, ho⟩
                    show fldO s2.sto[m]? g = _
                    rw [e]
                    exact el
                  cases d0 with
                  | olst ds =>
                    have a1 : Act s2 (.fld m g) (.olst ds) := ⟨ow, by intro z; cases z⟩
                    obtain ⟨vs, c1, c2⟩ := K.rel.cnt _ _ a1
                    have q1 : (ds.mapM (deep s2.sto n k)).map D.lst = some d1 := q1
                    rw [Option.map_eq_some_iff] at q1
                    obtain ⟨ds', q3, rfl⟩ := q1
                    exact ⟨_, vs, ew, K.act _ _ (fun i z => by cases z) a1, c1, deepL ih c2 q3⟩
                  | odct ds =>
                    have a1 : Act s2 (.fld m g) (.odct ds) := ⟨ow, by intro z; cases z⟩
                    obtain ⟨vs, c1, c2⟩ := K.rel.cnt _ _ a1
                    have q1 : (ds.mapM fun p => (deep s2.sto n k p.2).map fun d => (p.1, d)).map D.dct = some d1 := q1
                    rw [Option.map_eq_some_iff] at q1
                    obtain ⟨ds', q3, rfl⟩ := q1
                    exact ⟨_, vs, ew, K.act _ _ (fun i z => by cases z) a1, .inl c1, deepK ih c2 q3⟩
                  | oobj k1 gs1 => cases q1
                  | hid => cases q1
                  | _ => cases ho
                · rw [if_neg ho] at r0
                  have q2 : deep s2.sto n k d0 = some d1 := by
                    cases d0 <;> first | exact q1 | exact absurd rfl ho
                  exact ih d0 w d1 r0 q2
            exact key (fun p hp => mem_of_lookup nd hp) r1 h1
          | _ => cases h
    | tup ds =>
      obtain ⟨a, vs, rfl, q, r1⟩ := r
      have h : (ds.mapM (deep s2.sto n k)).map D.tup = some d' := h
      rw [Option.map_eq_some_iff] at h
      obtain ⟨ds', h1, rfl⟩ := h
      exact ⟨a, vs, rfl, q.imp (fun q => ⟨K.ms _ q.1, q.2⟩) id, deepL ih r1 h1⟩
    | lst ds =>
      obtain ⟨a, vs, rfl, q1, q2, r1⟩ := r
      have h : (ds.mapM (deep s2.sto n k)).map D.lst = some d' := h
      rw [Option.map_eq_some_iff] at h
      obtain ⟨ds', h1, rfl⟩ := h
      exact ⟨a, vs, rfl, K.ms _ q1, q2, deepL ih r1 h1⟩
    | dct ds =>
      obtain ⟨a, vs, rfl, q1, q2, r1⟩ := r
      have h : (ds.mapM fun p => (deep s2.sto n k p.2).map fun d => (p.1, d)).map D.dct = some d' := h
      rw [Option.map_eq_some_iff] at h
      obtain ⟨ds', h1, rfl⟩ := h
      exact ⟨a, vs, rfl, K.ms _ q1, q2, deepK ih r1 h1⟩
    | obj k0 fs =>
      obtain ⟨hk, a, dx, vs, rfl, q1, q2, r1⟩ := r
      have h : (fs.mapM fun p => (deep s2.sto n k p.2).map fun d => (p.1, d)).map (D.obj k0) = some d' := h
      rw [Option.map_eq_some_iff] at h
      obtain ⟨ds', h1, rfl⟩ := h
      exact ⟨hk, a, dx, vs, rfl, K.ms _ q1, q2, deepFs ih r1 h1⟩
    | scr ns =>
      obtain ⟨a, rfl, q⟩ := r
      cases h
      exact ⟨a, rfl, q.imp (fun q => ⟨K.ms _ q.1, q.2⟩) id⟩
    | non =>
      cases h
      exact r
    | bl b =>
      cases h
      exact r
    | int b =>
      cases h
      exact r
    | str b =>
      cases h
      exact r
    | exc _ _ => cases h
    | _ => exact r.elim
end
end TR
end

section
set_option Elab.async false
set_option linter.all false
set_option maxRecDepth 100000
set_option autoImplicit false
/-! TrFn: a function's entry and its end. -/
namespace TR
open PySem L2
section
variable {c : Cz} {φ φ' : Nm → Addr} {Mo Mo' : Addr → Prop} {s s' : St} {σ : L2.St} {H H' : Hp} {sto : List D} {ds : List D} {vs : List V} {N : List Str} {nl : Nat} {d : D} {v : V}
def env0 (ds : List D) (m : Nat) : List (Option D) := ds.map some ++ List.replicate m none
theorem env0_get {m j : Nat} {d : D} (h : (env0 ds m)[j]? = some (some d)) : ds[j]? = some d := by
  unfold env0 at h
  by_cases hj : j < ds.length
  · rw [List.getElem?_append_left (by rw [List.length_map]; exact hj), List.getElem?_map] at h
    cases e : ds[j]? with
    | none =>
      rw [e] at h
      cases h
    | some x =>
      rw [e] at h
      cases h
      rfl
  · rw [List.getElem?_append_right (by rw [List.length_map]; exact Nat.le_of_not_lt hj), List.getElem?_replicate] at h
    split at h <;> cases h
theorem start_get {j : Nat} {v : V} (h : vs[j]? = some v) : (L2.start N vs)[j]? = some (some v) := by
  unfold L2.start
  have hj := (List.getElem?_eq_some_iff.mp h).1
  rw [List.getElem?_append_left (by rw [List.length_map]; exact hj), List.getElem?_map, h]
  rfl
/-- the frame of slots alone -/
theorem noact {m : Nat} (hd : ∀ d ∈ ds, owned d = false) {i : Nat} {d : D} : ¬ Act ⟨env0 ds m, sto⟩ (.slot i) d := fun h => by
  have e := env0_get (slot_env h.1)
  have := hd d (List.mem_of_getElem? e)
  rw [own_owned h.1] at this
  cases this
theorem nohid {m : Nat} (hd : ∀ d ∈ ds, owned d = false) {i : Nat} : own ⟨env0 ds m, sto⟩ (.slot i) ≠ some .hid := fun h => by
  have e := env0_get (slot_env h)
  have := hd _ (List.mem_of_getElem? e)
  cases this
theorem repL_nown {M : Addr → Prop} {L : Nat} : ∀ {ds : List D} {vs : List V}, RepL c φ M H L ds vs → ∀ d ∈ ds, owned d = false
  | [], _, _, d, h => by cases h
  | d0 :: ds, vs, h, d, hd => by
    obtain ⟨v, ws, rfl, r, t⟩ := h
    rcases List.mem_cons.mp hd with rfl | hd
    · exact rep_nown r
    · exact repL_nown t d hd
/-- a function's entry -/
theorem enter_fn {m : Nat} (rel : Rel c φ Mo ⟨[], sto⟩ H) (r : RepL c φ (Ms φ Mo ⟨[], sto⟩) H sto.length ds vs) (hN : N.length = ds.length + m) :
    RelE c φ Mo ⟨env0 ds m, sto⟩ (L2.start N vs) H ∧ Fr φ Mo ⟨[], sto⟩ H φ Mo ⟨env0 ds m, sto⟩ H := by
  have hd := repL_nown r
  have fr : Fr φ Mo ⟨[], sto⟩ H φ Mo ⟨env0 ds m, sto⟩ H := Fr.env (s := ⟨[], sto⟩) (fun i d h => absurd h (noact hd)) fun i h => absurd h (nohid hd)
  refine ⟨{ rel.env (env := env0 ds m) (fun i d h => absurd h (noact hd)) with len := ?_, slots := fun i d h => ?_ }, fr⟩
  · show (L2.start N vs).length = (env0 ds m).length
    unfold L2.start env0
    rw [List.length_append, List.length_append, List.length_map, List.length_map, List.length_replicate, List.length_replicate, r.length, hN]
    omega
  · have e := env0_get h
    obtain ⟨v, e1, e2⟩ := r.get e
    refine ⟨v, start_get e1, ?_⟩
    rw [if_neg (by rw [hd d (List.mem_of_getElem? e)]; exact Bool.false_ne_true)]
    exact Rep.mv fr.mv _ _ e2
/-- the slots are let go -/
theorem Rel.noenv (r : Rel c φ Mo s H) : Rel c φ Mo ⟨[], s.sto⟩ H := r.env (env := []) fun i d h => absurd h.1 (by rw [show own { s with env := [] } (.slot i) = none from own_slot0]; exact fun z => by cases z)
theorem ms_noenv {a : Addr} (h : Ms φ Mo ⟨[], s.sto⟩ a) : Ms φ Mo s a := Ms.env (s := s) (env := []) (fun i d h => absurd h.1 (by rw [show own { s with env := [] } (.slot i) = none from own_slot0]; exact fun z => by cases z)) a h
theorem mv_noenv : Mv φ φ (Ms φ Mo s) (Ms φ Mo ⟨[], s.sto⟩) H H s.sto.length s.sto.length := mvM (fun a h => ms_noenv h) (fun _ _ => rfl) (Nat.le_refl _)
theorem FrR.leave {s0 : St} (f : FrR φ Mo s0 H φ' Mo' s' H') (hs : ∀ a, ¬ Sl φ s0 a) (h0 : ∀ i, own s0 (.slot i) ≠ some .hid) : Fr φ Mo s0 H φ' Mo' ⟨[], s'.sto⟩ H' :=
  ⟨f.imm, fun a h => f.new a (ms_noenv h), f.outer, fun a h => (f.fresh a h).imp id fun q => q.elim id fun q => absurd q (hs a), f.cell, f.len, f.dom, fun nm h => by
    by_cases hn : ∃ i, nm = .slot i
    · obtain ⟨i, rfl⟩ := hn
      rw [own_slot0] at h
      cases h
    · exact f.hid nm (by
        have := own_sto (sto := s'.sto) (env := s'.env) (env' := []) (nm := nm) fun i q => hn ⟨i, q⟩
        exact this.trans h), fun i d h => absurd h.1 (by rw [own_slot0]; exact fun z => by cases z), f.s0⟩
theorem VRep.noenv (h : VRep c φ Mo s H d v) (nr : nref d) : VRep c φ Mo ⟨[], s.sto⟩ H d v := by
  refine VRep.mv (s := s) (s' := ⟨[], s.sto⟩) mv_noenv (fun a q => ⟨q, fun _ e => e⟩) (fun i e => rfl) (fun n f e => rfl) h
end
section
variable {T : Tb} {F : Fi} {c : Cz} {W : Wx} {φ : Nm → Addr} {Mo : Addr → Prop} {sto : List D} {H : Hp} {ds : List D} {vs : List V} {Q : VK} {E : XK} {m : Nat} {r : St → Fl}
/-- the end of a function that sees the cells -/
theorem out_plain {N : List Str} (rel : Rel c φ Mo ⟨[], sto⟩ H) (rd : RepL c φ (Ms φ Mo ⟨[], sto⟩) H sto.length ds vs) (hN : N.length = ds.length + m) (h : OutF c false φ Mo sto H (fin false false sto (r ⟨env0 ds m, sto⟩)) Q E) :
    tS c (fun cls d _ H => E cls d H) r { nx := fun _ H' => Q .non H', rt := Q } (L2.start N vs) H := by
  obtain ⟨r0, f0⟩ := enter_fn rel rd hN
  have hd := repL_nown rd
  refine ⟨φ, Mo, ⟨env0 ds m, sto⟩, r0, ?_⟩
  have hs : ∀ a, ¬ Sl φ ⟨env0 ds m, sto⟩ a := fun a ⟨i, d, h, _⟩ => noact hd h
  have base : ∀ {φ' Mo' s' H'}, FrR φ Mo ⟨env0 ds m, sto⟩ H φ' Mo' s' H' → Fr φ Mo ⟨[], sto⟩ H φ' Mo' ⟨[], s'.sto⟩ H' := fun f => f0.trans (f.leave hs fun i => nohid hd)
  cases e : r ⟨env0 ds m, sto⟩ with
  | nx s' =>
    rw [e] at h
    intro σ' φ' Mo' H' r1 f1
    exact h .non φ' Mo' H' trivial r1.toRel.noenv (base (s' := s') f1.r) (fun q => by cases q) rfl fun q => by cases q
  | ret d s' =>
    rw [e] at h
    intro v φ' Mo' H' nr r1 f1 vr fv
    exact h v φ' Mo' H' nr r1.noenv (base (s' := s') f1) (fun q => by cases q) (vr.noenv nr) fun t a ea => (fv t a ea).elim id fun q => absurd q (hs a)
  | exc k fs s' =>
    rw [e] at h
    intro σ' cls dx φ' Mo' H' r1 f1 x
    exact h cls dx φ' Mo' H' r1.toRel.noenv (base (s' := s') f1.r) (fun q => by cases q) (x.mv mv_noenv)
  | brk s' =>
    rw [e] at h
    exact h.elim
  | cnt s' =>
    rw [e] at h
    exact h.elim
  | stuck =>
    rw [e] at h
    exact h.elim
/-! ### functions that see no old cell -/
theorem own_seen {n : Nat} {env : List (Option D)} {nm : Nm} (hn : ∀ i, nm ≠ .slot i) : own ⟨env, List.replicate n .dead⟩ nm = none := by
  cases nm with
  | slot i => exact absurd rfl (hn i)
  | cell k =>
    show ((List.replicate n D.dead)[k]?).filter owned = none
    rw [List.getElem?_replicate]
    split <;> rfl
  | fld k f =>
    show (fldO (List.replicate n D.dead)[k]? f).filter owned = none
    rw [List.getElem?_replicate]
    split <;> rfl
theorem ms_seen {n : Nat} {a : Addr} : Ms φ (Ms φ Mo ⟨[], sto⟩) ⟨[], List.replicate n .dead⟩ a ↔ Ms φ Mo ⟨[], sto⟩ a := by
  refine ⟨fun h => h.elim id fun ⟨nm, d, h, _⟩ => ?_, .inl⟩
  by_cases hn : ∃ i, nm = .slot i
  · obtain ⟨i, rfl⟩ := hn
    have q := h.1
    rw [own_slot0] at q
    cases q
  · have := h.1
    rw [own_seen fun i q => hn ⟨i, q⟩] at this
    cases this
theorem rel_seen (rel : Rel c φ Mo ⟨[], sto⟩ H) : Rel c φ (Ms φ Mo ⟨[], sto⟩) ⟨[], List.replicate sto.length .dead⟩ H := by
  have no : ∀ nm d, ¬ Act ⟨[], List.replicate sto.length .dead⟩ nm d := fun nm d h => by
    by_cases hn : ∃ i, nm = .slot i
    · obtain ⟨i, rfl⟩ := hn
      have := h.1
      rw [own_slot0] at this
      cases this
    · have := h.1
      rw [own_seen fun i q => hn ⟨i, q⟩] at this
      cases this
  exact ⟨fun nm nm' d d' h => absurd h (no nm d), fun nm d h => absurd h (no nm d), fun nm d h => absurd h (no nm d), fun a h => rel.domM h⟩
theorem repL_seen (r : RepL c φ (Ms φ Mo ⟨[], sto⟩) H sto.length ds vs) : RepL c φ (Ms φ (Ms φ Mo ⟨[], sto⟩) ⟨[], List.replicate sto.length .dead⟩) H (List.replicate sto.length D.dead).length ds vs :=
  RepL.mv (mvM (fun a h => ms_seen.mp h) (fun _ _ => rfl) (by rw [List.length_replicate]; exact Nat.le_refl _)) _ _ r
/-- what is known outside when such a function has ended -/
theorem back_seen {φ2 : Nm → Addr} {Mo2 : Addr → Prop} {s2 : St} {H2 : Hp} (rel : Rel c φ Mo ⟨[], sto⟩ H) (f : Fr φ (Ms φ Mo ⟨[], sto⟩) ⟨[], List.replicate sto.length .dead⟩ H φ2 Mo2 ⟨[], s2.sto⟩ H2) :
    Rel c φ Mo ⟨[], sto⟩ H2 ∧ Fr φ Mo ⟨[], sto⟩ H φ Mo ⟨[], sto⟩ H2 := by
  have imm : ∀ a o, H a = some o → H2 a = some o := fun a o e => by
    by_cases h : Ms φ Mo ⟨[], sto⟩ a
    · exact (f.outer a h).2 o e
    · exact f.imm a o e fun z => h (ms_seen.mp z)
  have mv : Mv φ φ (Ms φ Mo ⟨[], sto⟩) (Ms φ Mo ⟨[], sto⟩) H H2 sto.length sto.length := ⟨fun a o e hn => ⟨imm a o e, hn⟩, fun _ _ => rfl, Nat.le_refl _⟩
  refine ⟨⟨rel.inj, rel.out, fun nm d h => (rel.cnt nm d h).mv mv (fun o e => imm _ o e) fun _ _ _ _ _ _ _ _ _ => rfl, fun a h => f.dom a (rel.dom a h)⟩, ⟨fun a o e _ => imm a o e, fun a h => .inl h, fun a h => ⟨h, fun o e => imm a o e⟩, fun a h => .inl h, fun _ _ => rfl, Nat.le_refl _, f.dom, fun nm h => ⟨h, rfl⟩, fun i d h => .inl ⟨⟨d, h⟩, rfl⟩, rfl⟩⟩
end
end TR
end

section
set_option Elab.async false
set_option linter.all false
set_option maxRecDepth 100000
set_option autoImplicit false
/-! TrFn2: the end of a function that sees no old cell. -/
namespace TR
open PySem L2
section
variable {c : Cz} {φ φ2 : Nm → Addr} {Mo2 M : Addr → Prop} {s2 : St} {H H2 : Hp} {n : Nat}
theorem rep_nref {M : Addr → Prop} {L : Nat} {d : D} {v : V} (h : Rep c φ M H L d v) : nref d := by
  cases d <;> first | trivial | exact h.elim
theorem deep_val (K : DeepOk c φ φ2 Mo2 M s2 H2 n) (hM : ∀ a, H a = none → ¬ M a) {k : Nat} {d d' : D} {v : V} (vr : VRep c φ2 Mo2 s2 H2 d v) (nr : nref d) (fv : freshV H d v) (h : deep s2.sto n (k + 1) d = some d') : Rep c φ M H2 n d' v := by
  have ih := deep_rep K k
  cases d with
  | olst ds =>
    obtain ⟨a, rfl, hm, vs, e1, r1⟩ := vr
    have h : (ds.mapM (deep s2.sto n k)).map D.lst = some d' := h
    rw [Option.map_eq_some_iff] at h
    obtain ⟨ds', h1, rfl⟩ := h
    exact ⟨a, vs, rfl, hM a (fv rfl a rfl), e1, deepL ih r1 h1⟩
  | odct ds =>
    obtain ⟨a, rfl, hm, vs, e1, r1⟩ := vr
    have h : (ds.mapM fun p => (deep s2.sto n k p.2).map fun d => (p.1, d)).map D.dct = some d' := h
    rw [Option.map_eq_some_iff] at h
    obtain ⟨ds', h1, rfl⟩ := h
    exact ⟨a, vs, rfl, hM a (fv rfl a rfl), .inl e1, deepK ih r1 h1⟩
  | oobj k0 fs =>
    obtain ⟨a, rfl, hm, hk, nd, dx, us, e1, r1⟩ := vr
    have h : (fs.mapM fun p => (deep s2.sto n k p.2).map fun d => (p.1, d)).map (D.obj k0) = some d' := h
    rw [Option.map_eq_some_iff] at h
    obtain ⟨ds', h1, rfl⟩ := h
    exact ⟨hk, a, dx, us, rfl, hM a (fv rfl a rfl), e1, deepFs ih (repO_F r1) h1⟩
  | sref i => exact nr.elim
  | fref m f => exact nr.elim
  | hid => exact False.elim vr
  | dead => exact False.elim vr
  | non => exact deep_rep K (k + 1) _ _ _ vr h
  | bl b => exact deep_rep K (k + 1) _ _ _ vr h
  | int b => exact deep_rep K (k + 1) _ _ _ vr h
  | exc m fs => cases h
  | str z => exact deep_rep K (k + 1) _ _ _ vr h
  | tup ds => exact deep_rep K (k + 1) _ _ _ vr h
  | lst ds => exact deep_rep K (k + 1) _ _ _ vr h
  | dct ds => exact deep_rep K (k + 1) _ _ _ vr h
  | obj k1 ds => exact deep_rep K (k + 1) _ _ _ vr h
  | loc m => exact deep_rep K (k + 1) _ _ _ vr h
  | scr ns => exact deep_rep K (k + 1) _ _ _ vr h
theorem deepX {f : D → Option D} {M : Addr → Prop} {us : List (Str × V)} (ih : ∀ d v d', Rep c φ2 (Ms φ2 Mo2 s2) H2 s2.sto.length d v → f d = some d' → Rep c φ M H2 n d' v) : ∀ {fs fs' : List (Nat × D)}, RepX c φ2 (Ms φ2 Mo2 s2) H2 s2.sto.length fs us → (fs.mapM fun p => (f p.2).map fun d => (p.1, d)) = some fs' → RepX c φ M H2 n fs' us
  | [], fs', r, h => by
    rw [mapM_nil h]
    exact r
  | (k, d) :: fs, fs', r, h => by
    obtain ⟨⟨v, e, r1⟩, r2⟩ := r
    obtain ⟨y, zs, h1, h2, rfl⟩ := mapM_cons h
    rw [Option.map_eq_some_iff] at h1
    obtain ⟨d', h1, rfl⟩ := h1
    exact ⟨⟨v, e, ih d v d' r1 h1⟩, deepX ih r2 h2⟩
theorem deep_exc (K : DeepOk c φ φ2 Mo2 M s2 H2 n) {Mo : Addr → Prop} {sto : List D} (hm : ∀ a, Ms φ Mo ⟨[], sto⟩ a ↔ M a) (hn : sto.length = n) {k0 k : Nat} {fs fs' : List (Nat × D)} {cls : Value} {dx : Option Addr} (x : ExcR c φ2 Mo2 s2 H2 k0 fs cls dx) (h : (fs.mapM fun p => (deep s2.sto n k p.2).map fun d => (p.1, d)) = some fs') :
    ExcR c φ Mo ⟨[], sto⟩ H2 k0 fs' cls dx := by
  refine ⟨x.1, fun he => x.2.1 ?_, fun hne => ?_⟩
  · cases fs with
    | nil => rfl
    | cons p fs =>
      subst he
      obtain ⟨y, zs, _, _, e⟩ := mapM_cons h
      cases e
  have hne0 : fs ≠ [] := fun z => by
    subst z
    exact hne (mapM_nil h)
  obtain ⟨dd, us, e1, e2, e3, e4⟩ := x.2.2 hne0
  refine ⟨dd, us, e1, fun z => K.ms _ e2 ((hm dd).mp z), e3, ?_⟩
  have := deepX (deep_rep K k) e4 h
  rw [← hn] at this
  rw [show Ms φ Mo ⟨[], sto⟩ = M from funext fun a => propext (hm a)]
  exact this
end
section
variable {c : Cz} {φ : Nm → Addr} {Mo : Addr → Prop} {sto : List D} {H : Hp} {ds : List D} {vs : List V} {Q : VK} {E : XK} {m : Nat} {r : St → Fl}
theorem out_gc {N : List Str} (rel : Rel c φ Mo ⟨[], sto⟩ H) (rd : RepL c φ (Ms φ Mo ⟨[], sto⟩) H sto.length ds vs) (hN : N.length = ds.length + m) (h : OutF c true φ Mo sto H (fin true false sto (r ⟨env0 ds m, List.replicate sto.length .dead⟩)) Q E) :
    tS c (fun cls d _ H => E cls d H) r { nx := fun _ H' => Q .non H', rt := Q } (L2.start N vs) H := by
  obtain ⟨r0, f0⟩ := enter_fn (m := m) (N := N) (rel_seen rel) (repL_seen rd) hN
  have hd := repL_nown rd
  refine ⟨φ, _, ⟨env0 ds m, List.replicate sto.length .dead⟩, r0, ?_⟩
  have hs : ∀ a, ¬ Sl φ ⟨env0 ds m, List.replicate sto.length .dead⟩ a := fun a ⟨i, d, h, _⟩ => noact hd h
  have base : ∀ {φ' Mo' s' H'}, FrR φ (Ms φ Mo ⟨[], sto⟩) ⟨env0 ds m, List.replicate sto.length .dead⟩ H φ' Mo' s' H' → Fr φ (Ms φ Mo ⟨[], sto⟩) ⟨[], List.replicate sto.length .dead⟩ H φ' Mo' ⟨[], s'.sto⟩ H' := fun f => f0.trans (f.leave hs fun i => nohid hd)
  have dk : ∀ {φ' Mo' s' H'}, Rel c φ' Mo' s' H' → FrR φ (Ms φ Mo ⟨[], sto⟩) ⟨env0 ds m, List.replicate sto.length .dead⟩ H φ' Mo' s' H' → DeepOk c φ φ' Mo' (Ms φ Mo ⟨[], sto⟩) ⟨[], s'.sto⟩ H' sto.length := fun r1 f => ⟨r1.noenv, fun a q z => q (.inl (f.outer a z).1), fun nm d _ h z => r1.noenv.out nm d h (f.outer _ z).1, fun k hk => f.cell k (by rw [List.length_replicate]; exact hk)⟩
  have hM : ∀ a, H a = none → ¬ Ms φ Mo ⟨[], sto⟩ a := fun a q => rel.notM q
  have val : ∀ {d v φ' Mo' s' H'}, OutF c true φ Mo sto H (finD true false sto d s') Q E → nref d → Rel c φ' Mo' s' H' → FrR φ (Ms φ Mo ⟨[], sto⟩) ⟨env0 ds m, List.replicate sto.length .dead⟩ H φ' Mo' s' H' → VRep c φ' Mo' s' H' d v → freshR φ ⟨env0 ds m, List.replicate sto.length .dead⟩ H d v → Q v H' := fun {d v φ' Mo' s' H'} h nr r1 f1 vr fv => by
    have h : OutF c true φ Mo sto H (match deep s'.sto sto.length 40 d with
      | some d => .ok d ⟨[], sto⟩
      | none => .stuck) Q E := h
    cases e : deep s'.sto sto.length 40 d with
    | none =>
      rw [e] at h
      exact h.elim
    | some d' =>
      rw [e] at h
      obtain ⟨b1, b2⟩ := back_seen rel (base f1)
      have rp := deep_val (k := 39) (dk r1 f1) hM (vr.noenv nr) nr (fun t a ea => (fv t a ea).elim id fun q => absurd q (hs a)) e
      have k := VRep.of (s := ⟨[], sto⟩) (Mo := Mo) rp
      exact h v φ Mo H' (rep_nref rp) b1 b2 (fun _ _ _ => rfl) k.1 fun t => by rw [k.2] at t; cases t
  cases e : r ⟨env0 ds m, List.replicate sto.length .dead⟩ with
  | nx s' =>
    rw [e] at h
    intro σ' φ' Mo' H' r1 f1
    exact val (d := .non) (s' := s') h trivial r1.toRel f1.r rfl fun q => by cases q
  | ret d s' =>
    rw [e] at h
    intro v φ' Mo' H' nr r1 f1 vr fv
    exact val (d := d) (s' := s') h nr r1 f1 vr fv
  | exc k fs s' =>
    rw [e] at h
    intro σ' cls dx φ' Mo' H' r1 f1 x
    have h : OutF c true φ Mo sto H (match fs.mapM fun p => (deep s'.sto sto.length 40 p.2).map fun d => (p.1, d) with
      | some fs => .exc k fs ⟨[], sto⟩
      | none => .stuck) Q E := h
    cases e2 : fs.mapM fun p => (deep s'.sto sto.length 40 p.2).map fun d => (p.1, d) with
    | none =>
      rw [e2] at h
      exact h.elim
    | some fs' =>
      rw [e2] at h
      obtain ⟨b1, b2⟩ := back_seen rel (base f1.r)
      exact h cls dx φ Mo H' b1 b2 (fun _ _ _ => rfl) (deep_exc (dk r1.toRel f1.r) (fun a => Iff.rfl) rfl (x.mv mv_noenv) e2)
  | brk s' =>
    rw [e] at h
    exact h.elim
  | cnt s' =>
    rw [e] at h
    exact h.elim
  | stuck =>
    rw [e] at h
    exact h.elim
end
end TR
end

section
set_option Elab.async false
set_option linter.all false
set_option maxRecDepth 100000
set_option autoImplicit false
/-! TrFn3: the end of a constructor. -/
namespace TR
open PySem L2
theorem mapM_keys {g : D → Option D} : ∀ {fs fs' : List (Nat × D)}, (fs.mapM fun p => (g p.2).map fun d => (p.1, d)) = some fs' → fs'.map (·.1) = fs.map (·.1)
  | [], fs', h => by
    rw [mapM_nil h]
  | (k, d) :: fs, fs', h => by
    obtain ⟨y, zs, h1, h2, rfl⟩ := mapM_cons h
    rw [Option.map_eq_some_iff] at h1
    obtain ⟨d1, h1, rfl⟩ := h1
    rw [List.map_cons, List.map_cons, mapM_keys h2]
section
variable {c : Cz} {φ : Nm → Addr} {Mo : Addr → Prop} {sto : List D} {H : Hp} {ds : List D} {vs : List V} {Q : VK} {E : XK} {m k : Nat} {x dx : Addr} {gc : Bool} {r : St → Fl}
theorem out_ini {N : List Str} (rel : Rel c φ Mo ⟨[], sto⟩ H) (hx : H x = some (.ins (c.ct k) dx [])) (hk : c.hc k = true) (hm : Mo x) (rd : RepL c φ (Ms φ Mo ⟨[], sto⟩) H sto.length ds vs) (hN : N.length = ds.length + 1 + m)
    (h : OutI c x φ Mo sto H (fin gc true sto (r ⟨env0 (.oobj k [] :: ds) m, List.replicate sto.length .dead⟩)) Q E) :
    tS c (fun cls d _ H => E cls d H) r { nx := fun _ H' => Q .non H', rt := Q } (L2.start N (.ref x :: vs)) H := by
  have rd0 : RepL c φ (Ms φ (Ms φ Mo ⟨[], sto⟩) ⟨[], List.replicate sto.length .dead⟩) H (List.replicate sto.length D.dead).length (.non :: ds) (.non :: vs) := ⟨.non, vs, rfl, rfl, repL_seen rd⟩
  obtain ⟨r0, f0⟩ := enter_fn (m := m) (N := N) (rel_seen rel) rd0 (by rw [List.length_cons]; exact hN)
  have mx : Ms φ Mo ⟨[], sto⟩ x := .inl hm
  obtain ⟨r1, ms1, hc1⟩ := slot_new (i := 0) (d := .oobj k []) r0 mx rfl ⟨hk, List.nodup_nil, dx, [], hx, rfl⟩
  have r1 : RelE c (φs φ 0 x) (fun y => Ms φ Mo ⟨[], sto⟩ y ∧ y ≠ x) ⟨env0 (.oobj k [] :: ds) m, List.replicate sto.length .dead⟩ (L2.start N (.ref x :: vs)) H := r1
  refine ⟨φs φ 0 x, _, ⟨env0 (.oobj k [] :: ds) m, List.replicate sto.length .dead⟩, r1, ?_⟩
  -- what is known outside
  have back : ∀ {φ' Mo' s' H'}, FrR (φs φ 0 x) (fun y => Ms φ Mo ⟨[], sto⟩ y ∧ y ≠ x) ⟨env0 (.oobj k [] :: ds) m, List.replicate sto.length .dead⟩ H φ' Mo' s' H' → Rel c φ Mo ⟨[], sto⟩ H' ∧ Frx x φ Mo ⟨[], sto⟩ H φ Mo ⟨[], sto⟩ H' := fun {φ' Mo' s' H'} f => by
    have imm : ∀ a o, a ≠ x → H a = some o → H' a = some o := fun a o ha e => by
      by_cases hq : Ms φ Mo ⟨[], sto⟩ a
      · exact (f.outer a ⟨hq, ha⟩).2 o e
      · exact f.imm a o e fun z => (f0.new a (ms1 a z)).elim (fun q => hq (ms_seen.mp q)) fun q => by
          rw [e] at q
          cases q
    have mv : Mv φ φ (Ms φ Mo ⟨[], sto⟩) (Ms φ Mo ⟨[], sto⟩) H H' sto.length sto.length := ⟨fun a o e hn => ⟨imm a o (fun z => hn (by rw [z]; exact mx)) e, hn⟩, fun _ _ => rfl, Nat.le_refl _⟩
    refine ⟨⟨rel.inj, rel.out, fun nm d h => (rel.cnt nm d h).mv mv (fun o e => imm _ o (fun z => rel.out nm d h (by rw [z]; exact hm)) e) fun _ _ _ _ _ _ _ _ _ => rfl, fun a h => f.dom a (rel.dom a h)⟩,
      ⟨fun a o e hn => imm a o (fun z => hn (by rw [z]; exact mx)) e, fun a h => .inl h, fun a h => ⟨h, fun ha o e => imm a o ha e⟩, fun a h => .inl h, fun _ _ => rfl, Nat.le_refl _, f.dom, fun nm h => ⟨h, rfl⟩, fun _ _ => rfl⟩⟩
  have s0 : ∀ {φ' Mo' s' H'}, FrR (φs φ 0 x) (fun y => Ms φ Mo ⟨[], sto⟩ y ∧ y ≠ x) ⟨env0 (.oobj k [] :: ds) m, List.replicate sto.length .dead⟩ H φ' Mo' s' H' → φ' (.slot 0) = x := fun f => f.s0.trans φs_eq
  have dk : ∀ {φ' Mo' s' H' k1 fs}, Rel c φ' Mo' s' H' → own s' (.slot 0) = some (.oobj k1 fs) → FrR (φs φ 0 x) (fun y => Ms φ Mo ⟨[], sto⟩ y ∧ y ≠ x) ⟨env0 (.oobj k [] :: ds) m, List.replicate sto.length .dead⟩ H φ' Mo' s' H' → DeepOk c φ φ' Mo' (Ms φ Mo ⟨[], sto⟩) s' H' sto.length := fun {φ' Mo' s' H' k1 fs} r2 eo f => by
    have a0 : Act s' (.slot 0) (.oobj k1 fs) := ⟨eo, by intro z; cases z⟩
    refine ⟨r2, fun a hn z => ?_, fun nm d hns hd z => ?_, fun j hj => (f.cell j (by rw [List.length_replicate]; exact hj)).trans (hc1 j)⟩
    · by_cases ha : a = x
      · exact hn (.inr ⟨_, _, a0, by rw [s0 f, ha]⟩)
      · exact hn (.inl (f.outer a ⟨z, ha⟩).1)
    · by_cases ha : φ' nm = x
      · exact hns 0 (r2.inj nm (.slot 0) d _ hd a0 (by rw [ha, s0 f]))
      · exact r2.out nm d hd (f.outer _ ⟨z, ha⟩).1
  have val : ∀ {φ' Mo' s' H'}, OutI c x φ Mo sto H (finD gc true sto .non s') Q E → Rel c φ' Mo' s' H' → FrR (φs φ 0 x) (fun y => Ms φ Mo ⟨[], sto⟩ y ∧ y ≠ x) ⟨env0 (.oobj k [] :: ds) m, List.replicate sto.length .dead⟩ H φ' Mo' s' H' → Q .non H' := fun {φ' Mo' s' H'} h r2 f => by
    obtain ⟨b1, b2⟩ := back f
    unfold finD at h
    dsimp only at h
    split at h
    · rename_i k1 fs hq0 e1
      split at h
      · rename_i fs' e2
        have ev : s'.env[0]? = some (some (.oobj k1 fs)) := by
          cases q : s'.env[0]? with
          | none =>
            rw [q] at e1
            cases e1
          | some o =>
            rw [q] at e1
            have e1 : o = some (.oobj k1 fs) := e1
            rw [e1]
        have eo := own_slot ev rfl
        obtain ⟨hk1, nd, dx1, us, e3, r3⟩ := r2.cnt (.slot 0) _ ⟨eo, by intro z; cases z⟩
        have K := dk r2 eo f
        have rf := deepFs (deep_rep K 40) (repO_F r3) e2
        refine h φ Mo H' rfl b1 b2 ⟨hk1, ?_, dx1, us, by rw [← s0 f]; exact e3, repF_O rf⟩
        rw [mapM_keys e2]
        exact nd
      · exact h.elim
    · exact h.elim
  cases e : r ⟨env0 (.oobj k [] :: ds) m, List.replicate sto.length .dead⟩ with
  | nx s' =>
    rw [e] at h
    exact fun σ' φ' Mo' H' r2 f => val (s' := s') h r2.toRel f.r
  | ret d s' =>
    rw [e] at h
    intro v φ' Mo' H' nr r2 f vr fv
    cases d with
    | non =>
      rw [show v = .non from vr]
      exact val (s' := s') h r2 f
    | _ => exact h.elim
  | exc k0 fs s' =>
    rw [e] at h
    intro σ' cls dx' φ' Mo' H' r2 f xr
    have h : OutI c x φ Mo sto H (if selfOk true s' then (match fs.mapM fun p => (deep s'.sto sto.length 40 p.2).map fun d => (p.1, d) with
      | some fs => .exc k0 fs ⟨[], sto⟩
      | none => .stuck) else .stuck) Q E := h
    cases so : selfOk true s' with
    | false =>
      rw [so] at h
      exact h.elim
    | true =>
      rw [so, if_pos rfl] at h
      have ev : ∃ k1 gs, own s' (.slot 0) = some (.oobj k1 gs) := by
        unfold selfOk at so
        split at so
        · contradiction
        · rename_i k1 gs hq0 e1
          refine ⟨_, _, own_slot (i := 0) (d := .oobj k1 gs) ?_ rfl⟩
          cases q : s'.env[0]? with
          | none =>
            rw [q] at e1
            cases e1
          | some o =>
            rw [q] at e1
            have e1 : o = some (.oobj k1 gs) := e1
            rw [e1]
        · cases so
      obtain ⟨k1, gs, eo⟩ := ev
      cases e2 : fs.mapM fun p => (deep s'.sto sto.length 40 p.2).map fun d => (p.1, d) with
      | none =>
        rw [e2] at h
        exact h.elim
      | some fs' =>
        rw [e2] at h
        obtain ⟨b1, b2⟩ := back f.r
        exact h cls dx' φ Mo H' b1 b2 (deep_exc (dk r2.toRel eo f.r) (fun a => Iff.rfl) rfl xr e2)
  | brk s' =>
    rw [e] at h
    exact h.elim
  | cnt s' =>
    rw [e] at h
    exact h.elim
  | stuck =>
    rw [e] at h
    exact h.elim
end
end TR
end

section
set_option Elab.async false
set_option linter.all false
set_option maxRecDepth 100000
set_option autoImplicit false
/-! TrFnOk: every function keeps its promise. -/
namespace TR
open PySem L2 PySem.Spec PyProof.Rows
/-- what is known of a function's text -/
structure FnS (T : Tb) (c : Cz) (n : Nms) (f : Nat) (fd : Fn) (x qual : Str) (st : Stmt) (N : List Str) : Prop where
  fun_ : Fun c.K x qual st (n.fa f) (n.fdt f)
  scope : FnScope N (n.ps f) (defScope st)
  body : IsB c n N (defScope st) fd.body (defBody st)
  np : (n.ps f).length = fd.np
  nl : N.length = fd.np + (fd.nl - fd.np)
section
variable {T : Tb} {c : Cz} {n : Nms} {P : Program} {w : World} {mg : Str → Option Value} {base : Heap}
theorem repL_len {φ : Nm → Addr} {M : Addr → Prop} {H : Hp} {L : Nat} {ds : List D} {vs : List V} (h : RepL c φ M H L ds vs) : vs.length = ds.length := h.length
/-- a function's body to its end -/
theorem body_end {E : XK} {Q : VK} {H : Hp} {vs : List V} {f : Nat} {fd : Fn} {j : Nat} {N : List Str} (hN : ∀ {a : Nat}, a = fd.np → N.length = a + (fd.nl - fd.np))
    (ef : ∀ ini args sto, evFn T (j + 1) ini f args sto = if args.length = fd.np then fin fd.gc ini sto (evS T (evFn T j) fd.body ⟨env0 args (fd.nl - fd.np), seen (ini || fd.gc) sto⟩) else .stuck) (hsp : spF c (evFn T (j + 1)) fd.gc f vs H Q E) :
    tS c (fun cls d _ H => E cls d H) (evS T (evFn T j) fd.body) { nx := fun _ H' => Q .non H', rt := Q } (L2.start N vs) H := by
  rcases hsp with ⟨φ, Mo, sto, ds, rel, r, h⟩ | ⟨φ, Mo, sto, ds, k, x, ws, dx, rfl, hx, hk, hm, rel, r, h⟩
  · rw [ef] at h
    by_cases hl : ds.length = fd.np
    · rw [if_pos hl] at h
      cases hg : fd.gc with
      | false =>
        rw [hg] at h
        exact out_plain rel r (hN hl) h
      | true =>
        rw [hg] at h
        exact out_gc rel r (hN hl) h
    · rw [if_neg hl] at h
      exact h.elim
  · rw [ef] at h
    by_cases hl : (D.oobj k [] :: ds).length = fd.np
    · rw [if_pos hl] at h
      exact out_ini (gc := fd.gc) rel hx hk hm r (by rw [hN hl]; rfl) h
    · rw [if_neg hl] at h
      exact h.elim
theorem ef_of {f : Nat} {fd : Fn} (e : T.fn f = some fd) (j : Nat) : ∀ ini args sto, evFn T (j + 1) ini f args sto = if args.length = fd.np then fin fd.gc ini sto (evS T (evFn T j) fd.body ⟨env0 args (fd.nl - fd.np), seen (ini || fd.gc) sto⟩) else .stuck := fun ini args sto => by
  show (match T.fn f with
    | none => R.stuck
    | some fd => if args.length = fd.np then fin fd.gc ini sto (evS T (evFn T j) fd.body ⟨args.map some ++ List.replicate (fd.nl - fd.np) none, seen (ini || fd.gc) sto⟩) else .stuck) = _
  rw [e]
  rfl
theorem len_of {f : Nat} {fd : Fn} {x qual : Str} {st : Stmt} {N : List Str} (S : FnS T c n f fd x qual st N) (e : T.fn f = some fd) (j : Nat) : ∀ vs H Q E, spF c (evFn T (j + 1)) fd.gc f vs H Q E → vs.length = (n.ps f).length := by
  have ef := ef_of e j
  rintro vs H Q E (⟨φ, Mo, sto, ds, _, r, h⟩ | ⟨φ, Mo, sto, ds, k, x, ws, dx, rfl, _, _, _, _, r, h⟩)
  · rw [ef] at h
    by_cases hl : ds.length = fd.np
    · rw [r.length, hl, S.np]
    · rw [if_neg hl] at h
      exact h.elim
  · rw [ef] at h
    by_cases hl : (D.oobj k [] :: ds).length = fd.np
    · rw [List.length_cons, r.length, S.np, ← hl, List.length_cons]
    · rw [if_neg hl] at h
      exact h.elim
theorem no_zero {f : Nat} {fd : Fn} : ∀ vs H Q E, ¬ spF c (evFn T 0) fd.gc f vs H Q E := by
  rintro vs H Q E (⟨_, _, _, _, _, _, h⟩ | ⟨_, _, _, _, _, _, _, _, _, _, _, _, _, _, h⟩)
  · exact h
  · exact h
theorem fnH_all (St : StF T c n mg) (hf : ∀ f fd, T.fn f = some fd → ∃ x qual st N, FnS T c n f fd x qual st N) : ∀ (j f : Nat) (fd : Fn), T.fn f = some fd → c.hs f = true → FnHt P w c.K mg base (2 * j + 1) (n.fa f) (n.fdt f) (n.ps f) (spF c (evFn T j) fd.gc f) := by
  intro j
  induction j with
  | zero =>
    intro f fd e hh
    exact ⟨fun vs H Q q => (no_zero vs H Q noX q).elim, fun A outer s H args us vs Q hr e0 hb r hsp => (no_zero vs H Q noX hsp).elim⟩
  | succ j ih =>
    intro f fd e hh
    obtain ⟨x, qual, st, N, S⟩ := hf f fd e
    refine okH (k := 2 * j + 2) S.fun_ S.scope (fun vs H Q q => len_of S e j vs H Q noX q) fun cdv A outer s H vs Q p hr hsp => ?_
    have G : Gd T (evFn T j) c n N (defScope st) (fun _ _ _ _ => False) (2 * j + 1) (cxHt P w c.K mg base N qual (defScope st) (n.fa f) cdv A outer s H p) true :=
      { K_ := rfl, N_ := rfl, nd := S.scope.nd, sc_ := rfl, kind := S.scope.kind, units := (show (A.deeper (envOfC qual (defScope st) s.heap.objs.size (n.fa f) cdv)).units + 64 < cLine by have := hr.un; omega), kp := Nat.succ_pos _, calm := (fun z => by cases z), room := (fun z => by cases z), pas := (fun z => by cases z), own := (fun z => by cases z),
        w0 := fun _ => rfl, roomH := hr, hok := fun g gd eg hg => ih g gd eg hg, fok := (fun z => by cases z), st := St }
    have B := ((snd_stm fd.body) true (defScope st) _ _ G (fun _ => St.hotf f fd e hh) (fun q => by cases q) (fun _ _ => rfl)).2 (defBody st) S.body
    exact ⟨_, B, body_end (fun h => by rw [h]; exact S.nl) (ef_of e j) hsp⟩
theorem fn_all (St : StF T c n mg) (hf : ∀ f fd, T.fn f = some fd → ∃ x qual st N, FnS T c n f fd x qual st N) : ∀ (j f : Nat) (fd : Fn), T.fn f = some fd → FnOk P w c.K mg base (L2.CX P w) (2 * j + 1) (n.fa f) (n.fdt f) (n.ps f) (spF c (evFn T j) fd.gc f) := by
  intro j
  induction j with
  | zero =>
    intro f fd e
    exact ⟨fun vs H Q E q => (no_zero vs H Q E q).elim, fun A outer s H args us vs Q E hr e0 hb r hsp => (no_zero vs H Q E hsp).elim⟩
  | succ j ih =>
    intro f fd e
    obtain ⟨x, qual, st, N, S⟩ := hf f fd e
    refine Fun.okX (k := 2 * j + 2) S.fun_ S.scope (len_of S e j) fun cdv A outer s H vs Q E hr hsp => ?_
    have G : Gd T (evFn T j) c n N (defScope st) (fun cls d _ H => E cls d H) (2 * j + 1) (cxOf (L2.CX P w) P w c.K mg base N qual (defScope st) (n.fa f) cdv A outer s H E) false :=
      { K_ := rfl, N_ := rfl, nd := S.scope.nd, sc_ := rfl, kind := S.scope.kind, units := hr.units, kp := Nat.succ_pos _, calm := fun _ => rfl, room := fun _ => hr, pas := fun _ σ => passAt (takes_of rfl rfl rfl rfl) σ, own := fun _ => passes_of rfl,
        w0 := (fun z => by cases z), roomH := L2H.roomH_of hr, hok := fun g gd eg hg => fnH_all St hf j g gd eg hg, fok := fun _ g gd eg => ih g gd eg, st := St }
    have B := ((snd_stm fd.body) false (defScope st) _ _ G (fun q => by cases q) (fun _ => ⟨rfl, rfl, rfl, takes_of rfl rfl rfl rfl⟩) (fun _ _ => rfl)).2 (defBody st) S.body
    exact ⟨_, B, body_end (fun h => by rw [h]; exact S.nl) (ef_of e j) hsp⟩
end
end TR
end

section
set_option Elab.async false
set_option linter.all false
set_option maxRecDepth 100000
set_option autoImplicit false
/-! TrChk: a check, run by the kernel, that a Python text is what a term stands for. -/
namespace TR
open PySem L2
structure Ck where
  an : Nat → Str
  ha : Nat → Bool
  fn : Nat → Str
  gf : Nat → Bool
  mn : Nat → Str
  cn : Nat → Str
  gn : Nat → Str
  hc : Nat → Bool
  hx : Nat → Bool
  hr : Nat → Bool
  hs : Nat → Bool
def icNm (A : Ck) : Ic → Str
  | .own k => A.cn k
  | .int => "int" | .bool => "bool" | .str => "str" | .list => "list" | .tuple => "tuple" | .dict => "dict" | .verr => "ValueError"
def icB (A : Ck) : Ic → Bool
  | .own k => A.hc k || A.hx k
  | _ => true
def eS (x y : Str) : Bool := decide (x = y)
theorem eS_ok {x y : Str} (h : eS x y = true) : x = y := of_decide_eq_true h
def okTB (z : Tx) : Bool := decide (z.length ≤ lim) && z.all fun n => decide (n < 128)
theorem okTB_ok {z : Tx} (h : okTB z = true) : okT z := by
  unfold okTB at h
  rw [Bool.and_eq_true, List.all_eq_true] at h
  exact ⟨of_decide_eq_true h.1, fun n hn => of_decide_eq_true (h.2 n hn)⟩
def visB (sc : Scope) (x : Str) : Bool := (match sc.names.lookup x with
  | some .local => true
  | some .cell => true
  | some .free => true
  | _ => false) && !(x == ("__debug__" : Str)) && !(x == ("__classdict__" : Str))
theorem visB_ok {sc : Scope} {x : Str} (h : visB sc x = true) : vis sc x := by
  unfold visB at h
  simp only [Bool.and_eq_true, Bool.not_eq_true'] at h
  refine ⟨?_, h.1.2, h.2⟩
  have h := h.1.1
  unfold Vis
  split at h <;> rename_i e <;> first | (cases h; done) | simp [e]
def glB (sc : Scope) (x : Str) : Bool := decide (sc.names.lookup x = some .globalImplicit) && !(x == ("__debug__" : Str))
theorem glB_ok {sc : Scope} {x : Str} (h : glB sc x = true) : gl sc x := by
  unfold glB at h
  simp only [Bool.and_eq_true, Bool.not_eq_true', decide_eq_true_eq] at h
  exact h
def noSupB : Expr → Bool
  | .Call (.Name id _) [] [] _ => (id != ("super" : Str))
  | _ => true
def ckCs (A : Ck) (sc : Scope) : List Ic → List Expr → Bool
  | [], es => es.isEmpty
  | i :: is, es => match es with
    | .Name y _ :: t => eS y (icNm A i) && glB sc y && ckCs A sc is t
    | _ => false
def ckC (A : Ck) (sc : Scope) (cs : List Ic) (e : Expr) : Bool := match e with
  | .Name y _ => (match cs with
    | [i] => eS y (icNm A i) && glB sc y
    | _ => false)
  | .Tuple es _ _ => !cs.isEmpty && decide (es.length ≤ 1000) && ckCs A sc cs es
  | _ => false
theorem noSupB_ok {e : Expr} (h : noSupB e = true) : noSup e := by
  unfold noSupB at h
  split at h
  · exact h
  · rename_i hn
    unfold noSup
    split
    · exact absurd rfl (hn _ _ _)
    · trivial
def stvB (own : Bool) (sc : Scope) (x : Str) : Bool := match sc.names.lookup x with
  | some .local => true
  | some .cell => own
  | _ => false
theorem stvB_ok {own : Bool} {sc : Scope} {x : Str} (h : stvB own sc x = true) : stv own sc x := by
  unfold stvB at h
  split at h
  · exact .inl ‹_›
  · exact .inr ⟨h, ‹_›⟩
  · cases h
def nmB (N : List Str) (own : Bool) (sc : Scope) (i : Nat) (e : Expr) : Bool := match e with
  | .Name x _ => decide (N[i]? = some x) && stvB own sc x
  | _ => false
theorem nmB_ok {N : List Str} {own : Bool} {sc : Scope} {i : Nat} {e : Expr} (h : nmB N own sc i e = true) : IsNm N own sc i e := by
  unfold nmB at h
  split at h
  · rw [Bool.and_eq_true] at h
    exact ⟨_, _, rfl, of_decide_eq_true h.1, stvB_ok h.2⟩
  · cases h
def nmsB (N : List Str) (own : Bool) (sc : Scope) : List Nat → List Expr → Bool
  | [], [] => true
  | i :: is, e :: es => nmB N own sc i e && nmsB N own sc is es
  | _, _ => false
theorem nmsB_ok {N : List Str} {own : Bool} {sc : Scope} : ∀ {is : List Nat} {es : List Expr}, nmsB N own sc is es = true → IsNms N own sc is es
  | [], [], _ => rfl
  | [], _ :: _, h => by cases h
  | _ :: _, [], h => by cases h
  | i :: is, e :: es, h => by
    unfold nmsB at h
    rw [Bool.and_eq_true] at h
    exact ⟨e, es, rfl, nmB_ok h.1, nmsB_ok h.2⟩
def tgB (N : List Str) (own : Bool) (sc : Scope) : Tg → Expr → Bool
  | .one i, e => nmB N own sc i e
  | .many is, e => match e with
    | .Tuple es _ _ => nmsB N own sc is es
    | _ => false
theorem tgB_ok {N : List Str} {own : Bool} {sc : Scope} {t : Tg} {e : Expr} (h : tgB N own sc t e = true) : IsTg N own sc t e := by
  cases t with
  | one i => exact nmB_ok h
  | many is =>
    cases e <;> first | (cases h; done) | exact ⟨_, _, _, rfl, nmsB_ok h⟩
def few (es : List Expr) : Bool := decide (es.length < 20)
def ownOf (N : List Str) (ow : List Nat) : List (Str × Nat) := ow.map fun i => (N.getD i "", i)
theorem ownOf_snd (N : List Str) (ow : List Nat) : ow = (ownOf N ow).map (·.2) := by
  unfold ownOf
  rw [List.map_map]
  exact (List.map_id' ow).symm
def isAnd : E → Bool
  | .and _ _ => true | _ => false
def isOr : E → Bool
  | .or _ _ => true | _ => false
theorem isAnd_ok {b : E} (h : isAnd b = true) : ∃ b1 b2, b = .and b1 b2 := by
  cases b <;> first | (cases h; done) | exact ⟨_, _, rfl⟩
theorem isOr_ok {b : E} (h : isOr b = true) : ∃ b1 b2, b = .or b1 b2 := by
  cases b <;> first | (cases h; done) | exact ⟨_, _, rfl⟩
theorem isNil_ok {b : E} (h : isNil b = true) : b = .nil := by
  cases b <;> first | (cases h; done) | rfl
section
variable (A : Ck) (N : List Str)
mutual
def ckE (sc : Scope) : E → Expr → Bool
  | .non, e => (match e with | .Constant .none _ _ => true | _ => false)
  | .bl b, e => (match e with | .Constant (.bool c) _ _ => b == c | _ => false)
  | .int i, e => (match e with | .Constant (.int j) _ _ => decide (i = j) | _ => false)
  | .str z, e => (match e with | .Constant (.str s) _ _ => okTB z && eS s (tx z) | _ => false)
  | .var i, e => (match e with | .Name x _ => decide (N[i]? = some x) && visB sc x | _ => false)
  | .glob g, e => (match e with | .Name x _ => eS x (A.gn g) && glB sc x | _ => false)
  | .tup a, e => (match e with | .Tuple es _ _ => decide (es.length ≤ 1000) && ckA sc a es | _ => false)
  | .lst a, e => (match e with | .List es _ => decide (es.length ≤ 1000) && ckA sc a es | _ => false)
  | .dic0, e => (match e with | .Dict [] [] _ => true | _ => false)
  | .cel a, e => ckE sc a e
  | .bin o a b, e => (match e with | .BinOp ea op eb _ => decide (op = boOp o) && ckE sc a ea && ckE sc b eb | _ => false)
  | .neg a, e => (match e with | .UnaryOp .USub ea _ => ckE sc a ea | _ => false)
  | .cmp o a b, e => (match e with | .Compare ea [op] [eb] _ => decide (op = coOp o) && ckE sc a ea && ckE sc b eb | _ => false)
  | .isN a, e => (match e with | .Compare ea [.Is] [.Constant .none _ _] _ => ckE sc a ea | _ => false)
  | .notN a, e => (match e with | .Compare ea [.IsNot] [.Constant .none _ _] _ => ckE sc a ea | _ => false)
  | .chn o1 o2 a b d, e => (match e with | .Compare ea [p1, p2] [eb, ed] _ => decide (p1 = coOp o1) && decide (p2 = coOp o2) && ckE sc a ea && ckE sc b eb && ckE sc d ed && (decide (o1 = .lt) || decide (o1 = .le)) && (decide (o2 = .lt) || decide (o2 = .le)) | _ => false)
  | .and a b, e => tst a && tst b && (match e with
    | .BoolOp .And (ea :: eb :: r) p => ckE sc a ea && (match r with
      | [] => ckE sc b eb
      | _ :: _ => isAnd b && ckE sc b (.BoolOp .And (eb :: r) p))
    | _ => false)
  | .or a b, e => tst a && tst b && (match e with
    | .BoolOp .Or (ea :: eb :: r) p => ckE sc a ea && (match r with
      | [] => ckE sc b eb
      | _ :: _ => isOr b && ckE sc b (.BoolOp .Or (eb :: r) p))
    | _ => false)
  | .not a, e => tst a && (match e with | .UnaryOp .Not ea _ => ckE sc a ea | _ => false)
  | .ife t a b, e => tst t && (match e with | .IfExp et ea eb _ => ckE sc t et && ckE sc a ea && ckE sc b eb | _ => false)
  | .ix a i, e => (match e with | .Subscript ea ei _ => ckE sc a ea && ckE sc i ei | _ => false)
  | .sl a lo hi, e => (match e with
    | .Subscript ea (.Slice l h none _) _ => ckE sc a ea && (match l with
      | none => isNil lo
      | some el => ckE sc lo el) && (match h with
      | none => isNil hi
      | some eh => ckE sc hi eh)
    | _ => false)
  | .fld a f, e => (match e with | .Attribute ea x _ => eS x (A.an f) && A.ha f && noSupB ea && ckE sc a ea | _ => false)
  | .call f a, e => (match e with | .Call (.Name x _) es [] _ => eS x (A.fn f) && few es && A.gf f && glB sc x && ckA sc a es | _ => false)
  | .mth o m a, e => (match e with | .Call (.Attribute eo x p) es [] q => eS x (A.mn m) && few es && noSupB eo && (p.endLine == q.line) && ckE sc o eo && ckA sc a es | _ => false)
  | .mk k a, e => (match e with | .Call (.Name x _) es [] _ => eS x (A.cn k) && few es && glB sc x && ckA sc a es | _ => false)
  | .mkc k a, e => (match e with | .Call (.Name x _) es [] _ => eS x (A.cn k) && few es && glB sc x && ckA sc a es | _ => false)
  | .bi b a, e => (match e with | .Call (.Name x _) es [] _ => eS x (biName b) && decide (es.length = arity b) && glB sc x && ckA sc a es | _ => false)
  | .bm b o a, e => (match e with | .Call (.Attribute eo x p) es [] q => eS x (bmName b) && few es && noSupB eo && (p.endLine == q.line) && ckE sc o eo && ckA sc a es && decide (es.isEmpty = decide (b = .pop ∨ b = .clear)) && decide (b ≠ .partition ∧ b ≠ .get ∧ b ≠ .update) | _ => false)
  | .isi a cs, e => (match e with | .Call (.Name x _) [ea, ec] [] _ => eS x "isinstance" && glB sc x && cs.all (icB A) && ckC A sc cs ec && ckE sc a ea | _ => false)
  | .rpl pre o x y, e => (match pre with
    | some w => (match e with
      | .BinOp (.Constant (.str s) _ _) op (.Call (.Attribute eo m p) [.Constant (.str u) _ _, .Constant (.str v) _ _] [] q) _ =>
        decide (op = .Add) && (eS s (tx w) && (okTB w && (eS m "replace" && (eS u (tx [x]) && (eS v (tx [y]) && (decide (y < 128) && (decide (x ≠ y) && (noSupB eo && ((p.endLine == q.line) && ckE sc o eo)))))))))
      | _ => false)
    | none => (match e with
      | .Call (.Attribute (.Subscript eo (.Slice (some (.Constant (.int i) _ _)) none none _) _) m p) [.Constant (.str u) _ _, .Constant (.str v) _ _] [] q =>
        decide (i = 1) && (eS m "replace" && (eS u (tx [x]) && (eS v (tx [y]) && (decide (y < 128) && (decide (x ≠ y) && ((p.endLine == q.line) && ckE sc o eo))))))
      | _ => false))
  | .lc elt tg ow k a cond, e => (match e with
    | .ListComp ee [⟨et, it, ifs, 0⟩] sc' _ => blkC N sc sc' (ownOf N ow) && tgB N false (relS sc' sc) tg et && (tgs tg).all (fun i => decide (i ∈ ow)) && ckI sc k a tg it && ckE (relS sc' sc) elt ee && (match ifs with
      | [] => isNil cond
      | [ec] => tst cond && ckE (relS sc' sc) cond ec
      | _ => false)
    | _ => false)
  | _, _ => false
def ckA (sc : Scope) : E → List Expr → Bool
  | .nil, es => es.isEmpty
  | .cons a r, es => (match es with | e :: t => ckE sc a e && ckA sc r t | [] => false)
  | _, _ => false
def ckI (sc : Scope) (k : Sk) : E → Tg → Expr → Bool
  | .cons a .nil, tg, e => (match k with
    | .it => ckE sc a e
    | .rng1 => (match e with | .Call (.Name x _) [ea] [] _ => eS x "range" && glB sc x && ckE sc a ea | _ => false)
    | .enu => (match tg with | .many _ => true | _ => false) && (match e with | .Call (.Name x _) [ea] [] _ => eS x "enumerate" && glB sc x && ckE sc a ea | _ => false)
    | _ => false)
  | .cons a (.cons b .nil), tg, e => (match k with
    | .rng2 => (match e with | .Call (.Name x _) [ea, eb] [] _ => eS x "range" && glB sc x && ckE sc a ea && ckE sc b eb | _ => false)
    | _ => false)
  | _, _, _ => false
end
end

structure CkOk (A : Ck) (c : Cz) (n : Nms) : Prop where
  an : A.an = c.an
  ha : A.ha = c.ha
  fn : A.fn = n.fn
  gf : A.gf = n.gf
  mn : A.mn = n.mn
  cn : A.cn = n.cn
  gn : A.gn = n.gn
  hc : A.hc = c.hc
  hx : A.hx = c.hx
  hr : A.hr = c.hr
  hs : A.hs = c.hs
theorem icNm_ok {A : Ck} {n : Nms} (h : A.cn = n.cn) (i : Ic) : icNm A i = icName n i := by
  cases i with
  | own k => exact congrFun h k
  | _ => rfl
section
variable {A : Ck} {c : Cz} {n : Nms} {N : List Str}
theorem b2 {a b : Bool} (h : (a && b) = true) : a = true ∧ b = true := Bool.and_eq_true_iff.mp h
theorem ckCs_ok (h : A.cn = n.cn) {sc : Scope} : ∀ {cs : List Ic} {es : List Expr}, ckCs A sc cs es = true → IsCs n sc cs es
  | [], es, q => by
    cases es with
    | nil => rfl
    | cons a b => cases q
  | i :: cs, es, q => by
    unfold ckCs at q
    split at q
    · obtain ⟨q, h3⟩ := b2 q
      obtain ⟨h1, h2⟩ := b2 q
      cases eS_ok h1
      rw [icNm_ok h] at h2
      exact ⟨_, _, by rw [icNm_ok h], glB_ok h2, ckCs_ok h h3⟩
    · cases q
theorem glB_n (h : A.cn = n.cn) {sc : Scope} {y : Str} {i : Ic} (h1 : eS y (icNm A i) = true) (h2 : glB sc y = true) : y = icName n i ∧ gl sc (icName n i) := by
  cases eS_ok h1
  rw [icNm_ok h] at h2 ⊢
  exact ⟨rfl, glB_ok h2⟩
theorem ckC_ok (h : A.cn = n.cn) {sc : Scope} {cs : List Ic} {e : Expr} (q : ckC A sc cs e = true) : IsC c n sc cs e := by
  unfold ckC at q
  split at q
  · split at q
    · obtain ⟨h1, h2⟩ := b2 q
      obtain ⟨rfl, h3⟩ := glB_n h h1 h2
      exact .inl ⟨_, _, rfl, rfl, h3⟩
    · cases q
  · obtain ⟨q, h3⟩ := b2 q
    obtain ⟨h1, h2⟩ := b2 q
    refine .inr ⟨_, _, _, fun z => ?_, rfl, of_decide_eq_true h2, ckCs_ok h h3⟩
    subst z
    cases h1
  · cases q
theorem ck_all (K : CkOk A c n) : ∀ ir : E, (∀ sc e, ckE A N sc ir e = true → IsE c n N sc ir e) ∧ (∀ sc es, ckA A N sc ir es = true → IsA c n N sc ir es) ∧ (∀ sc k tg e, ckI A N sc k ir tg e = true → IsI c n N sc k ir tg e) := by
  obtain ⟨k1, k2, k3, k4, k5, k6, k7, k8, k9, k10, k11⟩ := K
  have dec : ∀ {p : Prop} [Decidable p], decide p = true → p := fun h => of_decide_eq_true h
  intro ir
  have noA : (∀ sc es, ckA A N sc ir es = true → False) → ∀ sc es, ckA A N sc ir es = true → IsA c n N sc ir es := fun q sc es h => (q sc es h).elim
  have noI : (∀ sc k tg e, ckI A N sc k ir tg e = true → False) → ∀ sc k tg e, ckI A N sc k ir tg e = true → IsI c n N sc k ir tg e := fun q sc k tg e h => (q sc k tg e h).elim
  induction ir with
  | nil =>
    refine ⟨fun sc e h => (by simp [ckE] at h), fun sc es h => ?_, noI fun sc k tg e h => (by simp [ckI] at h)⟩
    cases es with
    | nil => rfl
    | cons a b => simp [ckA] at h
  | cons a r iha ihr =>
    have iha := iha (fun q sc es h => (q sc es h).elim) (fun q sc k tg e h => (q sc k tg e h).elim)
    have ihr := ihr (fun q sc es h => (q sc es h).elim) (fun q sc k tg e h => (q sc k tg e h).elim)
    refine ⟨fun sc e h => (by simp [ckE] at h), fun sc es h => ?_, fun sc k tg e h => ?_⟩
    · simp only [ckA] at h
      split at h
      · obtain ⟨h1, h2⟩ := b2 h
        exact ⟨_, _, rfl, iha.1 _ _ h1, ihr.2.1 _ _ h2⟩
      · cases h
    · cases r with
      | nil =>
        simp only [ckI] at h
        split at h
        · exact .inl ⟨rfl, iha.1 _ _ h⟩
        · split at h
          · obtain ⟨h, h3⟩ := b2 h
            obtain ⟨h1, h2⟩ := b2 h
            cases eS_ok h1
            exact .inr (.inl ⟨rfl, _, _, _, rfl, glB_ok h2, iha.1 _ _ h3⟩)
          · cases h
        · obtain ⟨h0, h⟩ := b2 h
          have ht : ∃ is, tg = .many is := by
            split at h0
            · exact ⟨_, rfl⟩
            · cases h0
          split at h
          · obtain ⟨h, h3⟩ := b2 h
            obtain ⟨h1, h2⟩ := b2 h
            cases eS_ok h1
            exact .inr (.inr ⟨rfl, ht, _, _, _, rfl, glB_ok h2, iha.1 _ _ h3⟩)
          · cases h
        · cases h
      | cons b r2 =>
        cases r2 with
        | nil =>
          simp only [ckI] at h
          split at h
          · split at h
            · rename_i ea eb pq
              obtain ⟨h, h4⟩ := b2 h
              obtain ⟨h, h3⟩ := b2 h
              obtain ⟨h1, h2⟩ := b2 h
              cases eS_ok h1
              have hb : IsE c n N sc b eb := by
                have := ihr.2.1 sc [eb] (show ckA A N sc (.cons b .nil) [eb] = true from by simp only [ckA, h4, List.isEmpty_nil, Bool.and_self])
                obtain ⟨e, t, e1, e2, _⟩ := this
                cases e1
                exact e2
              exact ⟨rfl, _, _, _, _, rfl, glB_ok h2, iha.1 _ _ h3, hb⟩
            · cases h
          · cases h
        | _ => simp [ckI] at h
      | _ => simp [ckI] at h
  | non  =>
    refine ⟨fun sc e h => ?_, noA fun sc es h => (by simp [ckA] at h), noI fun sc k tg e h => (by simp [ckI] at h)⟩
    simp only [ckE] at h
    split at h
    · exact ⟨_, _, rfl⟩
    · cases h
  | bl b =>
    refine ⟨fun sc e h => ?_, noA fun sc es h => (by simp [ckA] at h), noI fun sc k tg e h => (by simp [ckI] at h)⟩
    simp only [ckE] at h
    split at h
    · cases (beq_iff_eq.mp h)
      exact ⟨_, _, rfl⟩
    · cases h
  | int i =>
    refine ⟨fun sc e h => ?_, noA fun sc es h => (by simp [ckA] at h), noI fun sc k tg e h => (by simp [ckI] at h)⟩
    simp only [ckE] at h
    split at h
    · cases (dec h)
      exact ⟨_, _, rfl⟩
    · cases h
  | str z =>
    refine ⟨fun sc e h => ?_, noA fun sc es h => (by simp [ckA] at h), noI fun sc k tg e h => (by simp [ckI] at h)⟩
    simp only [ckE] at h
    split at h
    · obtain ⟨h, h2⟩ := b2 h
      have h1 := h
      cases (eS_ok h2)
      exact ⟨okTB_ok h1, _, _, rfl⟩
    · cases h
  | var i =>
    refine ⟨fun sc e h => ?_, noA fun sc es h => (by simp [ckA] at h), noI fun sc k tg e h => (by simp [ckI] at h)⟩
    simp only [ckE] at h
    split at h
    · obtain ⟨h, h2⟩ := b2 h
      have h1 := h
      exact ⟨_, _, dec h1, visB_ok h2, rfl⟩
    · cases h
  | glob g =>
    refine ⟨fun sc e h => ?_, noA fun sc es h => (by simp [ckA] at h), noI fun sc k tg e h => (by simp [ckI] at h)⟩
    simp only [ckE] at h
    split at h
    · obtain ⟨h, h2⟩ := b2 h
      have h1 := h
      cases (eS_ok h1)
      rw [k7] at h2
      exact ⟨_, glB_ok h2, by rw [k7]⟩
    · cases h
  | tup a ih =>
    have ih := ih (fun q sc es h => (q sc es h).elim) (fun q sc k tg e h => (q sc k tg e h).elim)
    refine ⟨fun sc e h => ?_, noA fun sc es h => (by simp [ckA] at h), noI fun sc k tg e h => (by simp [ckI] at h)⟩
    simp only [ckE] at h
    split at h
    · obtain ⟨h, h2⟩ := b2 h
      have h1 := h
      exact ⟨_, _, _, rfl, dec h1, ih.2.1 _ _ h2⟩
    · cases h
  | lst a ih =>
    have ih := ih (fun q sc es h => (q sc es h).elim) (fun q sc k tg e h => (q sc k tg e h).elim)
    refine ⟨fun sc e h => ?_, noA fun sc es h => (by simp [ckA] at h), noI fun sc k tg e h => (by simp [ckI] at h)⟩
    simp only [ckE] at h
    split at h
    · obtain ⟨h, h2⟩ := b2 h
      have h1 := h
      exact ⟨_, _, rfl, dec h1, ih.2.1 _ _ h2⟩
    · cases h
  | dic0  =>
    refine ⟨fun sc e h => ?_, noA fun sc es h => (by simp [ckA] at h), noI fun sc k tg e h => (by simp [ckI] at h)⟩
    simp only [ckE] at h
    split at h
    · exact ⟨_, rfl⟩
    · cases h
  | cel a ih =>
    have ih := ih (fun q sc es h => (q sc es h).elim) (fun q sc k tg e h => (q sc k tg e h).elim)
    refine ⟨fun sc e h => ?_, noA fun sc es h => (by simp [ckA] at h), noI fun sc k tg e h => (by simp [ckI] at h)⟩
    simp only [ckE] at h
    exact ih.1 _ _ h
  | bin o a b iha ihb =>
    have iha := iha (fun q sc es h => (q sc es h).elim) (fun q sc k tg e h => (q sc k tg e h).elim)
    have ihb := ihb (fun q sc es h => (q sc es h).elim) (fun q sc k tg e h => (q sc k tg e h).elim)
    refine ⟨fun sc e h => ?_, noA fun sc es h => (by simp [ckA] at h), noI fun sc k tg e h => (by simp [ckI] at h)⟩
    simp only [ckE] at h
    split at h
    · obtain ⟨h, h3⟩ := b2 h
      obtain ⟨h, h2⟩ := b2 h
      have h1 := h
      cases (dec h1)
      exact ⟨_, _, _, rfl, iha.1 _ _ h2, ihb.1 _ _ h3⟩
    · cases h
  | neg a ih =>
    have ih := ih (fun q sc es h => (q sc es h).elim) (fun q sc k tg e h => (q sc k tg e h).elim)
    refine ⟨fun sc e h => ?_, noA fun sc es h => (by simp [ckA] at h), noI fun sc k tg e h => (by simp [ckI] at h)⟩
    simp only [ckE] at h
    split at h
    · exact ⟨_, _, rfl, ih.1 _ _ h⟩
    · cases h
  | cmp o a b iha ihb =>
    have iha := iha (fun q sc es h => (q sc es h).elim) (fun q sc k tg e h => (q sc k tg e h).elim)
    have ihb := ihb (fun q sc es h => (q sc es h).elim) (fun q sc k tg e h => (q sc k tg e h).elim)
    refine ⟨fun sc e h => ?_, noA fun sc es h => (by simp [ckA] at h), noI fun sc k tg e h => (by simp [ckI] at h)⟩
    simp only [ckE] at h
    split at h
    · obtain ⟨h, h3⟩ := b2 h
      obtain ⟨h, h2⟩ := b2 h
      have h1 := h
      cases (dec h1)
      exact ⟨_, _, _, rfl, iha.1 _ _ h2, ihb.1 _ _ h3⟩
    · cases h
  | isN a ih =>
    have ih := ih (fun q sc es h => (q sc es h).elim) (fun q sc k tg e h => (q sc k tg e h).elim)
    refine ⟨fun sc e h => ?_, noA fun sc es h => (by simp [ckA] at h), noI fun sc k tg e h => (by simp [ckI] at h)⟩
    simp only [ckE] at h
    split at h
    · exact ⟨_, _, _, _, rfl, ih.1 _ _ h⟩
    · cases h
  | notN a ih =>
    have ih := ih (fun q sc es h => (q sc es h).elim) (fun q sc k tg e h => (q sc k tg e h).elim)
    refine ⟨fun sc e h => ?_, noA fun sc es h => (by simp [ckA] at h), noI fun sc k tg e h => (by simp [ckI] at h)⟩
    simp only [ckE] at h
    split at h
    · exact ⟨_, _, _, _, rfl, ih.1 _ _ h⟩
    · cases h
  | chn o1 o2 a b d iha ihb ihd =>
    have iha := iha (fun q sc es h => (q sc es h).elim) (fun q sc k tg e h => (q sc k tg e h).elim)
    have ihb := ihb (fun q sc es h => (q sc es h).elim) (fun q sc k tg e h => (q sc k tg e h).elim)
    have ihd := ihd (fun q sc es h => (q sc es h).elim) (fun q sc k tg e h => (q sc k tg e h).elim)
    refine ⟨fun sc e h => ?_, noA fun sc es h => (by simp [ckA] at h), noI fun sc k tg e h => (by simp [ckI] at h)⟩
    simp only [ckE] at h
    split at h
    · obtain ⟨h, h7⟩ := b2 h
      obtain ⟨h, h6⟩ := b2 h
      obtain ⟨h, h5⟩ := b2 h
      obtain ⟨h, h4⟩ := b2 h
      obtain ⟨h, h3⟩ := b2 h
      obtain ⟨h, h2⟩ := b2 h
      have h1 := h
      cases (dec h1)
      cases (dec h2)
      rw [Bool.or_eq_true] at h6 h7
      exact ⟨_, _, _, _, rfl, iha.1 _ _ h3, ihb.1 _ _ h4, ihd.1 _ _ h5, h6.imp dec dec, h7.imp dec dec⟩
    · cases h
  | and a b iha ihb =>
    have iha := iha (fun q sc es h => (q sc es h).elim) (fun q sc k tg e h => (q sc k tg e h).elim)
    have ihb := ihb (fun q sc es h => (q sc es h).elim) (fun q sc k tg e h => (q sc k tg e h).elim)
    refine ⟨fun sc e h => ?_, noA fun sc es h => (by simp [ckA] at h), noI fun sc k tg e h => (by simp [ckI] at h)⟩
    simp only [ckE] at h
    obtain ⟨h, h3⟩ := b2 h
    obtain ⟨h1, h2⟩ := b2 h
    split at h3
    · obtain ⟨h4, h5⟩ := b2 h3
      split at h5
      · exact ⟨h1, h2, _, _, _, _, rfl, iha.1 _ _ h4, .inl ⟨rfl, ihb.1 _ _ h5⟩⟩
      · obtain ⟨h6, h7⟩ := b2 h5
        exact ⟨h1, h2, _, _, _, _, rfl, iha.1 _ _ h4, .inr ⟨List.cons_ne_nil _ _, isAnd_ok h6, ihb.1 _ _ h7⟩⟩
    · cases h3
  | or a b iha ihb =>
    have iha := iha (fun q sc es h => (q sc es h).elim) (fun q sc k tg e h => (q sc k tg e h).elim)
    have ihb := ihb (fun q sc es h => (q sc es h).elim) (fun q sc k tg e h => (q sc k tg e h).elim)
    refine ⟨fun sc e h => ?_, noA fun sc es h => (by simp [ckA] at h), noI fun sc k tg e h => (by simp [ckI] at h)⟩
    simp only [ckE] at h
    obtain ⟨h, h3⟩ := b2 h
    obtain ⟨h1, h2⟩ := b2 h
    split at h3
    · obtain ⟨h4, h5⟩ := b2 h3
      split at h5
      · exact ⟨h1, h2, _, _, _, _, rfl, iha.1 _ _ h4, .inl ⟨rfl, ihb.1 _ _ h5⟩⟩
      · obtain ⟨h6, h7⟩ := b2 h5
        exact ⟨h1, h2, _, _, _, _, rfl, iha.1 _ _ h4, .inr ⟨List.cons_ne_nil _ _, isOr_ok h6, ihb.1 _ _ h7⟩⟩
    · cases h3
  | not a ih =>
    have ih := ih (fun q sc es h => (q sc es h).elim) (fun q sc k tg e h => (q sc k tg e h).elim)
    refine ⟨fun sc e h => ?_, noA fun sc es h => (by simp [ckA] at h), noI fun sc k tg e h => (by simp [ckI] at h)⟩
    simp only [ckE] at h
    obtain ⟨h1, h⟩ := b2 h
    split at h
    · exact ⟨h1, _, _, rfl, ih.1 _ _ h⟩
    · cases h
  | ife t a b iht iha ihb =>
    have iht := iht (fun q sc es h => (q sc es h).elim) (fun q sc k tg e h => (q sc k tg e h).elim)
    have iha := iha (fun q sc es h => (q sc es h).elim) (fun q sc k tg e h => (q sc k tg e h).elim)
    have ihb := ihb (fun q sc es h => (q sc es h).elim) (fun q sc k tg e h => (q sc k tg e h).elim)
    refine ⟨fun sc e h => ?_, noA fun sc es h => (by simp [ckA] at h), noI fun sc k tg e h => (by simp [ckI] at h)⟩
    simp only [ckE] at h
    obtain ⟨h0, h⟩ := b2 h
    split at h
    · obtain ⟨h, h3⟩ := b2 h
      obtain ⟨h, h2⟩ := b2 h
      have h1 := h
      exact ⟨h0, _, _, _, _, rfl, iht.1 _ _ h1, iha.1 _ _ h2, ihb.1 _ _ h3⟩
    · cases h
  | ix a i iha ihi =>
    have iha := iha (fun q sc es h => (q sc es h).elim) (fun q sc k tg e h => (q sc k tg e h).elim)
    have ihi := ihi (fun q sc es h => (q sc es h).elim) (fun q sc k tg e h => (q sc k tg e h).elim)
    refine ⟨fun sc e h => ?_, noA fun sc es h => (by simp [ckA] at h), noI fun sc k tg e h => (by simp [ckI] at h)⟩
    simp only [ckE] at h
    split at h
    · obtain ⟨h, h2⟩ := b2 h
      have h1 := h
      exact ⟨_, _, _, rfl, iha.1 _ _ h1, ihi.1 _ _ h2⟩
    · cases h
  | sl a lo hi iha ihlo ihhi =>
    have iha := iha (fun q sc es h => (q sc es h).elim) (fun q sc k tg e h => (q sc k tg e h).elim)
    have ihlo := ihlo (fun q sc es h => (q sc es h).elim) (fun q sc k tg e h => (q sc k tg e h).elim)
    have ihhi := ihhi (fun q sc es h => (q sc es h).elim) (fun q sc k tg e h => (q sc k tg e h).elim)
    refine ⟨fun sc e h => ?_, noA fun sc es h => (by simp [ckA] at h), noI fun sc k tg e h => (by simp [ckI] at h)⟩
    simp only [ckE] at h
    split at h
    · obtain ⟨h, h3⟩ := b2 h
      obtain ⟨h, h2⟩ := b2 h
      have h1 := h
      refine ⟨_, _, _, _, _, rfl, iha.1 _ _ h1, ?_, ?_⟩
      · split at h2
        · exact .inl ⟨isNil_ok h2, rfl⟩
        · exact .inr ⟨_, rfl, ihlo.1 _ _ h2⟩
      · split at h3
        · exact .inl ⟨isNil_ok h3, rfl⟩
        · exact .inr ⟨_, rfl, ihhi.1 _ _ h3⟩
    · cases h
  | fld a f ih =>
    have ih := ih (fun q sc es h => (q sc es h).elim) (fun q sc k tg e h => (q sc k tg e h).elim)
    refine ⟨fun sc e h => ?_, noA fun sc es h => (by simp [ckA] at h), noI fun sc k tg e h => (by simp [ckI] at h)⟩
    simp only [ckE] at h
    split at h
    · obtain ⟨h, h4⟩ := b2 h
      obtain ⟨h, h3⟩ := b2 h
      obtain ⟨h, h2⟩ := b2 h
      have h1 := h
      cases (eS_ok h1)
      rw [k2] at h2
      exact ⟨_, _, by rw [k1], h2, noSupB_ok h3, ih.1 _ _ h4⟩
    · cases h
  | call f a ih =>
    have ih := ih (fun q sc es h => (q sc es h).elim) (fun q sc k tg e h => (q sc k tg e h).elim)
    refine ⟨fun sc e h => ?_, noA fun sc es h => (by simp [ckA] at h), noI fun sc k tg e h => (by simp [ckI] at h)⟩
    simp only [ckE] at h
    split at h
    · obtain ⟨h, h5⟩ := b2 h
      obtain ⟨h, h4⟩ := b2 h
      obtain ⟨h, h3⟩ := b2 h
      obtain ⟨h, h2⟩ := b2 h
      have h1 := h
      cases (eS_ok h1)
      rw [k3] at h4
      rw [k4] at h3
      exact ⟨_, _, _, by rw [k3], dec h2, h3, glB_ok h4, ih.2.1 _ _ h5⟩
    · cases h
  | mth o m a iho iha =>
    have iho := iho (fun q sc es h => (q sc es h).elim) (fun q sc k tg e h => (q sc k tg e h).elim)
    have iha := iha (fun q sc es h => (q sc es h).elim) (fun q sc k tg e h => (q sc k tg e h).elim)
    refine ⟨fun sc e h => ?_, noA fun sc es h => (by simp [ckA] at h), noI fun sc k tg e h => (by simp [ckI] at h)⟩
    simp only [ckE] at h
    split at h
    · obtain ⟨h, h6⟩ := b2 h
      obtain ⟨h, h5⟩ := b2 h
      obtain ⟨h, h4⟩ := b2 h
      obtain ⟨h, h3⟩ := b2 h
      obtain ⟨h, h2⟩ := b2 h
      have h1 := h
      cases (eS_ok h1)
      exact ⟨_, _, _, _, by rw [k5], dec h2, noSupB_ok h3, h4, iho.1 _ _ h5, iha.2.1 _ _ h6⟩
    · cases h
  | mk k a ih =>
    have ih := ih (fun q sc es h => (q sc es h).elim) (fun q sc k tg e h => (q sc k tg e h).elim)
    refine ⟨fun sc e h => ?_, noA fun sc es h => (by simp [ckA] at h), noI fun sc k tg e h => (by simp [ckI] at h)⟩
    simp only [ckE] at h
    split at h
    · obtain ⟨h, h4⟩ := b2 h
      obtain ⟨h, h3⟩ := b2 h
      obtain ⟨h, h2⟩ := b2 h
      have h1 := h
      cases (eS_ok h1)
      rw [k6] at h3
      exact ⟨_, _, _, by rw [k6], dec h2, glB_ok h3, ih.2.1 _ _ h4⟩
    · cases h
  | mkc k a ih =>
    have ih := ih (fun q sc es h => (q sc es h).elim) (fun q sc k tg e h => (q sc k tg e h).elim)
    refine ⟨fun sc e h => ?_, noA fun sc es h => (by simp [ckA] at h), noI fun sc k tg e h => (by simp [ckI] at h)⟩
    simp only [ckE] at h
    split at h
    · obtain ⟨h, h4⟩ := b2 h
      obtain ⟨h, h3⟩ := b2 h
      obtain ⟨h, h2⟩ := b2 h
      have h1 := h
      cases (eS_ok h1)
      rw [k6] at h3
      exact ⟨_, _, _, by rw [k6], dec h2, glB_ok h3, ih.2.1 _ _ h4⟩
    · cases h
  | bi b a ih =>
    have ih := ih (fun q sc es h => (q sc es h).elim) (fun q sc k tg e h => (q sc k tg e h).elim)
    refine ⟨fun sc e h => ?_, noA fun sc es h => (by simp [ckA] at h), noI fun sc k tg e h => (by simp [ckI] at h)⟩
    simp only [ckE] at h
    split at h
    · obtain ⟨h, h4⟩ := b2 h
      obtain ⟨h, h3⟩ := b2 h
      obtain ⟨h, h2⟩ := b2 h
      have h1 := h
      cases (eS_ok h1)
      exact ⟨_, _, _, rfl, dec h2, glB_ok h3, ih.2.1 _ _ h4⟩
    · cases h
  | bm b o a iho iha =>
    have iho := iho (fun q sc es h => (q sc es h).elim) (fun q sc k tg e h => (q sc k tg e h).elim)
    have iha := iha (fun q sc es h => (q sc es h).elim) (fun q sc k tg e h => (q sc k tg e h).elim)
    refine ⟨fun sc e h => ?_, noA fun sc es h => (by simp [ckA] at h), noI fun sc k tg e h => (by simp [ckI] at h)⟩
    simp only [ckE] at h
    split at h
    · obtain ⟨h, h8⟩ := b2 h
      obtain ⟨h, h7⟩ := b2 h
      obtain ⟨h, h6⟩ := b2 h
      obtain ⟨h, h5⟩ := b2 h
      obtain ⟨h, h4⟩ := b2 h
      obtain ⟨h, h3⟩ := b2 h
      obtain ⟨h, h2⟩ := b2 h
      have h1 := h
      cases (eS_ok h1)
      have h7 := dec h7
      refine ⟨_, _, _, _, rfl, dec h2, noSupB_ok h3, h4, iho.1 _ _ h5, iha.2.1 _ _ h6, ?_, dec h8⟩
      rw [← List.isEmpty_iff, h7, decide_eq_true_eq]
    · cases h
  | lc elt tg ow k a cond ihelt iha ihcond =>
    have ihelt := ihelt (fun q sc es h => (q sc es h).elim) (fun q sc k tg e h => (q sc k tg e h).elim)
    have iha := iha (fun q sc es h => (q sc es h).elim) (fun q sc k tg e h => (q sc k tg e h).elim)
    have ihcond := ihcond (fun q sc es h => (q sc es h).elim) (fun q sc k tg e h => (q sc k tg e h).elim)
    refine ⟨fun sc e h => ?_, noA fun sc es h => (by simp [ckA] at h), noI fun sc k tg e h => (by simp [ckI] at h)⟩
    simp only [ckE] at h
    split at h
    · obtain ⟨h, h6⟩ := b2 h
      obtain ⟨h, h5⟩ := b2 h
      obtain ⟨h, h4⟩ := b2 h
      obtain ⟨h, h3⟩ := b2 h
      obtain ⟨h, h2⟩ := b2 h
      have h1 := h
      refine ⟨_, _, _, _, _, _, ownOf N ow, rfl, ownOf_snd N ow, h1, tgB_ok h2, fun i hi => dec (List.all_eq_true.mp h3 i hi), iha.2.2 _ _ _ _ h4, ihelt.1 _ _ h5, ?_⟩
      split at h6
      · exact .inl ⟨isNil_ok h6, rfl⟩
      · obtain ⟨h7, h8⟩ := b2 h6
        exact .inr ⟨_, h7, rfl, ihcond.1 _ _ h8⟩
      · cases h6
    · cases h
  | rpl pre o x y ih =>
    have ih := ih (fun q sc es h => (q sc es h).elim) (fun q sc k tg e h => (q sc k tg e h).elim)
    refine ⟨fun sc e h => ?_, noA fun sc es h => (by simp [ckA] at h), noI fun sc k tg e h => (by simp [ckI] at h)⟩
    cases pre with
    | some w =>
      simp only [ckE] at h
      split at h
      · obtain ⟨h1, h⟩ := b2 h
        obtain ⟨h2, h⟩ := b2 h
        obtain ⟨h3, h⟩ := b2 h
        obtain ⟨h4, h⟩ := b2 h
        obtain ⟨h5, h⟩ := b2 h
        obtain ⟨h6, h⟩ := b2 h
        obtain ⟨h7, h⟩ := b2 h
        obtain ⟨h8, h⟩ := b2 h
        obtain ⟨h9, h⟩ := b2 h
        obtain ⟨h10, hE⟩ := b2 h
        cases (dec h1)
        cases (eS_ok h2)
        cases (eS_ok h4)
        cases (eS_ok h5)
        cases (eS_ok h6)
        exact ⟨_, _, _, _, _, _, _, _, _, _, rfl, okTB_ok h3, dec h7, dec h8, noSupB_ok h9, h10, ih.1 _ _ hE⟩
      · cases h
    | none =>
      simp only [ckE] at h
      split at h
      · obtain ⟨h1, h⟩ := b2 h
        obtain ⟨h2, h⟩ := b2 h
        obtain ⟨h3, h⟩ := b2 h
        obtain ⟨h4, h⟩ := b2 h
        obtain ⟨h5, h⟩ := b2 h
        obtain ⟨h6, h⟩ := b2 h
        obtain ⟨h7, hE⟩ := b2 h
        cases (dec h1)
        cases (eS_ok h2)
        cases (eS_ok h3)
        cases (eS_ok h4)
        exact ⟨_, _, _, _, _, _, _, _, _, _, _, rfl, dec h5, dec h6, h7, ih.1 _ _ hE⟩
      · cases h
  | isi a cs ih =>
    have ih := ih (fun q sc es h => (q sc es h).elim) (fun q sc k tg e h => (q sc k tg e h).elim)
    refine ⟨fun sc e h => ?_, noA fun sc es h => (by simp [ckA] at h), noI fun sc k tg e h => (by simp [ckI] at h)⟩
    simp only [ckE] at h
    split at h
    · obtain ⟨h, h5⟩ := b2 h
      obtain ⟨h, h4⟩ := b2 h
      obtain ⟨h, h3⟩ := b2 h
      obtain ⟨h1, h2⟩ := b2 h
      cases eS_ok h1
      refine ⟨_, _, _, _, rfl, fun k q => ?_, glB_ok h2, ckC_ok k6 h4, ih.1 _ _ h5⟩
      have := List.all_eq_true.mp h3 _ q
      unfold Cz.hk
      rw [← k8, ← k9]
      exact this
    · cases h
end
/-! ### statements -/
def lcNm (x : Str) : Expr → Bool
  | .ListComp _ _ s' _ => !(s'.names.any fun (m, k) => m == x && (k == .local || k == .cell))
  | _ => false
def nmScB (N : List Str) (sc : Scope) : Option Str → Option Nat → Bool
  | some y, some i => decide (N[i]? = some y) && decide (sc.names.lookup y = some .local)
  | none, none => true
  | _, _ => false
theorem nmScB_ok {N : List Str} {sc : Scope} {xn : Option Str} {xi : Option Nat} (h : nmScB N sc xn xi = true) : nmSc N sc xn xi := by
  cases xn <;> cases xi <;> first | (cases h; done) | exact trivial | (have h := Bool.and_eq_true_iff.mp h; exact ⟨of_decide_eq_true h.1, of_decide_eq_true h.2⟩)
section
variable (A : Ck) (N : List Str)
mutual
def ckS (sc : Scope) : S → Stmt → Bool
  | .skip, st => (match st with | .Expr (.Constant (.str _) _ _) _ => true | .Pass _ => true | _ => false)
  | .asg i e, st => (match st with | .Assign [.Name x px] ee _ => decide (N[i]? = some x) && ckE A N sc e ee && ((!isLc ee && stvB true sc x) || (decide (sc.names.lookup x = some .local) && (px.line == ee.pos.line) && (match e with | .lc _ _ _ _ _ _ => lcNm x ee | _ => false))) | _ => false)
  | .asgT is e, st => (match st with | .Assign [.Tuple es _ _] ee _ => nmsB N true sc is es && !isLc ee && (match ee with | .Tuple _ _ _ => false | _ => true) && ckE A N sc e ee | _ => false)
  | .setIx a i e, st => (match st with | .Assign [.Subscript ea ei _] ee _ => ckE A N sc a ea && ckE A N sc i ei && ckE A N sc e ee | _ => false)
  | .setFld a f e, st => (match st with | .Assign [.Attribute ea x _] ee _ => eS x (A.an f) && A.ha f && ckE A N sc a ea && ckE A N sc e ee | _ => false)
  | .expr e, st => (match st with | .Expr ee _ => !isLc ee && ckE A N sc e ee | _ => false)
  | .ret e, st => (match st with | .Return (some ee) _ => ckE A N sc e ee | .Return none _ => (match e with | .non => true | _ => false) | _ => false)
  | .ifs t a b, st => tst t && (match st with | .If et ba bb _ => ckE A N sc t et && ckB sc a ba && ckB sc b bb | _ => false)
  | .whl t b, st => tst t && (match st with | .While et bb [] _ => ckE A N sc t et && ckB sc b bb | _ => false)
  | .fors tg k a b, st => (match st with | .For et it bb [] _ => tgB N true sc tg et && ckI A N sc k a tg it && ckB sc b bb | _ => false)
  | .brk, st => (match st with | .Break _ => true | _ => false)
  | .cnt, st => (match st with | .Continue _ => true | _ => false)
  | .raise k a, st => (match st with | .Raise (some (.Call (.Name x _) (e :: es) [] _)) none _ => eS x (A.cn k) && A.hr k && few (e :: es) && glB sc x && ckA A N sc a (e :: es) | _ => false)
  | .tryS b k xi h, st => hotS A.hs h && A.hx k && (match st with | .Try body [.ExceptHandler (some (.Name x _)) xn (b0 :: suite) _] [] [] _ => eS x (A.cn k) && glB sc x && nmScB N sc xn xi && ckB sc b body && ckB sc h (b0 :: suite) | _ => false)
  | _, _ => false
def ckB (sc : Scope) : S → List Stmt → Bool
  | .skip, sts => sts.isEmpty
  | .seq a b, sts => (match sts with | st :: rest => ckS sc a st && ckB sc b rest | [] => false)
  | _, _ => false
end
end
section
variable {A : Ck} {c : Cz} {n : Nms} {N : List Str}
theorem ck_stm (K : CkOk A c n) : ∀ ir : S, (∀ sc st, ckS A N sc ir st = true → IsS1 c n N sc ir st) ∧ (∀ sc sts, ckB A N sc ir sts = true → IsB c n N sc ir sts) := by
  have ce : ∀ {ir sc e}, ckE A N sc ir e = true → IsE c n N sc ir e := fun {ir sc e} h => (ck_all K ir).1 sc e h
  have ca : ∀ {ir sc es}, ckA A N sc ir es = true → IsA c n N sc ir es := fun {ir sc es} h => (ck_all K ir).2.1 sc es h
  have ci : ∀ {ir sc k tg e}, ckI A N sc k ir tg e = true → IsI c n N sc k ir tg e := fun {ir sc k tg e} h => (ck_all K ir).2.2 sc k tg e h
  obtain ⟨k1, k2, k3, k4, k5, k6, k7, k8, k9, k10, k11⟩ := K
  have dec : ∀ {p : Prop} [Decidable p], decide p = true → p := fun h => of_decide_eq_true h
  intro ir
  induction ir with
  | skip =>
    refine ⟨fun sc st h => ?_, fun sc sts h => ?_⟩
    · simp only [ckS] at h
      split at h
      · exact .inl ⟨_, _, _, _, rfl⟩
      · exact .inr ⟨_, rfl⟩
      · cases h
    · cases sts with
      | nil => rfl
      | cons a b => simp [ckB] at h
  | seq a b iha ihb =>
    refine ⟨fun sc st h => (by simp [ckS] at h), fun sc sts h => ?_⟩
    simp only [ckB] at h
    split at h
    · obtain ⟨h1, h2⟩ := b2 h
      exact ⟨_, _, rfl, iha.1 _ _ h1, ihb.2 _ _ h2⟩
    · cases h
  | asg i e =>
    refine ⟨fun sc st h => ?_, fun sc sts h => (by simp [ckB] at h)⟩
    simp only [ckS] at h
    split at h
    · obtain ⟨h, h3⟩ := b2 h
      obtain ⟨h1, h2⟩ := b2 h
      refine ⟨_, _, _, _, rfl, dec h1, ce h2, ?_⟩
      rw [Bool.or_eq_true] at h3
      rcases h3 with h3 | h3
      · obtain ⟨h4, h5⟩ := b2 h3
        exact .inl ⟨by simpa using h4, stvB_ok h5⟩
      · obtain ⟨h3, h6⟩ := b2 h3
        obtain ⟨h4, h5⟩ := b2 h3
        refine .inr ⟨dec h4, h5, ?_⟩
        split at h6
        · refine ⟨_, _, _, _, _, _, rfl, ?_⟩
          unfold lcNm at h6
          split at h6
          · simpa using h6
          · cases h6
        · cases h6
    · cases h
  | asgT is e =>
    refine ⟨fun sc st h => ?_, fun sc sts h => (by simp [ckB] at h)⟩
    simp only [ckS] at h
    split at h
    · obtain ⟨h, h4⟩ := b2 h
      obtain ⟨h, h3⟩ := b2 h
      obtain ⟨h1, h2⟩ := b2 h
      refine ⟨_, _, _, _, _, rfl, nmsB_ok h1, by simpa using h2, fun a b c q => ?_, ce h4⟩
      subst q
      cases h3
    · cases h
  | setIx a i e =>
    refine ⟨fun sc st h => ?_, fun sc sts h => (by simp [ckB] at h)⟩
    simp only [ckS] at h
    split at h
    · obtain ⟨h, h3⟩ := b2 h
      obtain ⟨h1, h2⟩ := b2 h
      exact ⟨_, _, _, _, _, rfl, ce h1, ce h2, ce h3⟩
    · cases h
  | setFld a f e =>
    refine ⟨fun sc st h => ?_, fun sc sts h => (by simp [ckB] at h)⟩
    simp only [ckS] at h
    split at h
    · obtain ⟨h, h4⟩ := b2 h
      obtain ⟨h, h3⟩ := b2 h
      obtain ⟨h1, h2⟩ := b2 h
      cases (eS_ok h1)
      rw [k2] at h2
      exact ⟨_, _, _, _, by rw [k1], h2, ce h3, ce h4⟩
    · cases h
  | expr e =>
    refine ⟨fun sc st h => ?_, fun sc sts h => (by simp [ckB] at h)⟩
    simp only [ckS] at h
    split at h
    · obtain ⟨h1, h2⟩ := b2 h
      exact ⟨_, _, rfl, by simpa using h1, ce h2⟩
    · cases h
  | ret e =>
    refine ⟨fun sc st h => ?_, fun sc sts h => (by simp [ckB] at h)⟩
    simp only [ckS] at h
    split at h
    · exact .inl ⟨_, _, rfl, ce h⟩
    · split at h
      · exact .inr ⟨rfl, _, rfl⟩
      · cases h
    · cases h
  | ifs t a b iha ihb =>
    refine ⟨fun sc st h => ?_, fun sc sts h => (by simp [ckB] at h)⟩
    simp only [ckS] at h
    obtain ⟨h0, h⟩ := b2 h
    split at h
    · obtain ⟨h, h3⟩ := b2 h
      obtain ⟨h1, h2⟩ := b2 h
      exact ⟨h0, _, _, _, _, rfl, ce h1, iha.2 _ _ h2, ihb.2 _ _ h3⟩
    · cases h
  | whl t b ihb =>
    refine ⟨fun sc st h => ?_, fun sc sts h => (by simp [ckB] at h)⟩
    simp only [ckS] at h
    obtain ⟨h0, h⟩ := b2 h
    split at h
    · obtain ⟨h1, h2⟩ := b2 h
      exact ⟨h0, _, _, _, rfl, ce h1, ihb.2 _ _ h2⟩
    · cases h
  | fors tg k a b ihb =>
    refine ⟨fun sc st h => ?_, fun sc sts h => (by simp [ckB] at h)⟩
    simp only [ckS] at h
    split at h
    · obtain ⟨h, h3⟩ := b2 h
      obtain ⟨h1, h2⟩ := b2 h
      exact ⟨_, _, _, _, rfl, tgB_ok h1, ci h2, ihb.2 _ _ h3⟩
    · cases h
  | brk =>
    refine ⟨fun sc st h => ?_, fun sc sts h => (by simp [ckB] at h)⟩
    simp only [ckS] at h
    split at h
    · exact ⟨_, rfl⟩
    · cases h
  | cnt =>
    refine ⟨fun sc st h => ?_, fun sc sts h => (by simp [ckB] at h)⟩
    simp only [ckS] at h
    split at h
    · exact ⟨_, rfl⟩
    · cases h
  | raise k0 a =>
    refine ⟨fun sc st h => ?_, fun sc sts h => (by simp [ckB] at h)⟩
    simp only [ckS] at h
    split at h
    · obtain ⟨h, h5⟩ := b2 h
      obtain ⟨h, h4⟩ := b2 h
      obtain ⟨h, h3⟩ := b2 h
      obtain ⟨h1, h2⟩ := b2 h
      cases eS_ok h1
      rw [k6] at h4
      exact ⟨by rw [← k10]; exact h2, _, _, _, _, _, by rw [k6], of_decide_eq_true h3, glB_ok h4, ca h5⟩
    · cases h
  | tryS b k0 x h ihb ihh =>
    refine ⟨fun sc st q => ?_, fun sc sts h => (by simp [ckB] at h)⟩
    simp only [ckS] at q
    obtain ⟨q, q1⟩ := b2 q
    obtain ⟨q2, q3⟩ := b2 q
    split at q1
    · obtain ⟨q1, h5⟩ := b2 q1
      obtain ⟨q1, h4⟩ := b2 q1
      obtain ⟨q1, h3⟩ := b2 q1
      obtain ⟨h1, h2⟩ := b2 q1
      cases eS_ok h1
      rw [k6] at h2
      exact ⟨by rw [← k11]; exact q2, by rw [← k9]; exact q3, _, _, _, _, _, _, _, by rw [k6], glB_ok h2, nmScB_ok h3, ihb.2 _ _ h4, ihh.2 _ _ h5⟩
    · cases q1
/-- a function's scope and parameters -/
def fnScB (N P : List Str) (sc : Scope) : Bool := decide (sc.kind = .function) && !sc.isCoroutine && !sc.isGenerator && decide N.Nodup && decide (N.take P.length = P) &&
  (P.all fun x => match sc.names.lookup x with | some .local => true | some .cell => true | _ => false) && sc.names.all fun y => decide (y.2 ≠ .free)
theorem fnScB_ok {N P : List Str} {sc : Scope} (h : fnScB N P sc = true) : FnScope N P sc := by
  unfold fnScB at h
  simp only [Bool.and_eq_true, decide_eq_true_eq, Bool.not_eq_true', List.all_eq_true] at h
  obtain ⟨⟨⟨⟨⟨⟨h1, h2⟩, h3⟩, h4⟩, h5⟩, h6⟩, h7⟩ := h
  refine ⟨h1, h2, h3, h4, h5, fun x hx => ?_, h7⟩
  have := h6 x hx
  split at this
  · exact .inl ‹_›
  · exact .inr ‹_›
  · cases this
/-- one function of the table -/
def fnB (A : Ck) (fd : Fn) (st : Stmt) (N P : List Str) : Bool := fnScB N P (defScope st) && ckB A N (defScope st) fd.body (defBody st) && decide (P.length = fd.np) && decide (N.length = fd.np + (fd.nl - fd.np))
end
end TR
end

section
set_option Elab.async false
set_option linter.all false
set_option maxRecDepth 100000
set_option autoImplicit false
/-! TrHead: a row's tables, what is asked of the written part, the law's end. -/
namespace TR
open PySem L2
/-- a function of the row: its number, where it stands, names, text, slots, parameters, term -/
structure FE where
  id : Nat
  spot : Str × Option Str
  x : Str
  qual : Str
  st : Stmt
  N : List Str
  P : List Str
  fd : Fn
/-- the __init__ of an exception's class: its class, its def, its base's name, its fields -/
structure XI where
  k : Nat
  fe : FE
  bn : Str
  f1 : Nat
  f2 : Nat
structure RowD where
  fes : List FE
  mt : List (Nat × Nat × Nat)
  inis : List (Nat × Option Nat)
  subs : List (Nat × Nat)
  globs : List (Nat × D)
  gcm : List Nat
  exns : List (Nat × List Nat)
  an : List Str
  fnl : List (Nat × Str)
  mn : List Str
  cn : List Str
  gnl : List (Nat × Str)
  hcl : List Nat
  hxl : List Nat
  xis : List XI
  hsl : List Nat
namespace RowD
def all (r : RowD) : List FE := r.fes ++ r.xis.map (·.fe)
def T (r : RowD) : Tb where
  fn f := (r.fes.map fun e => (e.id, e.fd)).lookup f
  mth k m := (r.mt.map fun p => ((p.1, p.2.1), p.2.2)).lookup (k, m)
  ini k := r.inis.lookup k
  sub k c := r.subs.contains (k, c)
  glob g := r.globs.lookup g
  mgc m := r.gcm.contains m
  exn k := r.exns.lookup k
def ck (r : RowD) : Ck where
  an f := r.an.getD f ""
  ha f := Nat.blt f r.an.length
  fn f := (r.fnl.lookup f).getD ""
  gf f := (r.fnl.lookup f).isSome
  mn m := r.mn.getD m ""
  cn k := r.cn.getD k ""
  gn g := (r.gnl.lookup g).getD ""
  hc k := r.hcl.contains k
  hx k := r.hxl.contains k
  hr k := (r.exns.lookup k).isSome
  hs f := r.hsl.contains f
def spotOf (r : RowD) (f : Nat) : Str × Option Str := ((r.fes.map fun e => (e.id, e.spot)).lookup f).getD ("", none)
def psOf (r : RowD) (f : Nat) : List Str := ((r.fes.map fun e => (e.id, e.P)).lookup f).getD []
def cz (r : RowD) (K : PySem.W.Frag) : Cz := ⟨K, fun k => He.ga K (r.ck.cn k), r.ck.an, r.ck.ha, fun k => r.hcl.contains k, fun k => r.hxl.contains k, fun k => (r.exns.lookup k).isSome, fun f => r.hsl.contains f⟩
def fdAt (K : PySem.W.Frag) (a : Addr) : FuncData := match K.lookup a with
  | some ⟨_, _, .func fd, _⟩ => fd
  | _ => PySem.W.fnOf "" "" ⟨[], [], none, [], [], none, []⟩ [] ⟨.function, [], false, false, []⟩ .none .none .none .none none .none .none
def nms (r : RowD) (K : PySem.W.Frag) : Nms := ⟨r.ck.fn, r.ck.mn, r.ck.cn, r.ck.gn, fun f => He.fAd K (r.spotOf f), fun f => fdAt K (He.fAd K (r.spotOf f)), r.psOf, r.ck.gf⟩
theorem ckOk (r : RowD) (K : PySem.W.Frag) : CkOk r.ck (r.cz K) (r.nms K) := ⟨rfl, rfl, rfl, rfl, rfl, rfl, rfl, rfl, rfl, rfl, rfl⟩
/-! ### what is asked of the written part -/
def isNone : Value → Bool
  | .none => true | _ => false
def feB (K : PySem.W.Frag) (e : FE) : Bool := PySem.W.keepIn K (.ref (He.fAd K e.spot)) && (match K.lookup (He.fAd K e.spot) with
  | some ⟨_, _, .func fd, _⟩ => PySem.W.codeIn K fd.code e.qual && isNone fd.defaults
  | _ => false)
def feV (e : FE) : He.FnW := some (e.x, e.qual, defArgs e.st, .stmts (defBody e.st), defScope e.st, mainGlobals, [], builtinsNs)
def strV : List D → Option (List V)
  | [] => some []
  | .str z :: r => (strV r).map (V.str (tx z) :: ·)
  | _ => none
def strOk : List D → Bool
  | [] => true
  | .str z :: r => okTB z && strOk r
  | _ => false
def globB (K : PySem.W.Frag) (x : Str) : D → Bool
  | .str z => okTB z && (match PySem.W.nsIn K mainGlobals x with
    | some (some (.str y _)) => eS y (tx z)
    | _ => false)
  | .int i => (match PySem.W.nsIn K mainGlobals x with
    | some (some (.int j _)) => decide (j = i)
    | _ => false)
  | .tup ds => strOk ds && (match PySem.W.nsIn K mainGlobals x with
    | some (some (.ref a)) => (match K.lookup a with
      | some ⟨.type c, _, .seq its _, _⟩ => decide (c = "tuple") && (decide (its.size ≤ sizeLine) && (match strV ds with
        | some vs => He.relAll vs its.toList
        | none => false))
      | _ => false)
    | _ => false)
  | _ => false
def clsB (r : RowD) (K : PySem.W.Frag) (k : Nat) : Bool := (He.Fa.cls (r.ck.cn k)).ok K && (He.Fa.glo (r.ck.cn k)).ok K && r.an.all fun x => (He.Fa.noat (r.ck.cn k) x).ok K
def mthB (r : RowD) (K : PySem.W.Frag) (p : Nat × Nat × Nat) : Bool := !r.hcl.contains p.1 || (He.eqO (PySem.W.findIn K (.ref (He.ga K (r.ck.cn p.1))) (r.ck.mn p.2.1)) (some (some (.ref (He.fAd K (r.spotOf p.2.2))))) && (PySem.W.isFn K (.ref (He.fAd K (r.spotOf p.2.2))) && PySem.W.keepIn K (.ref (He.fAd K (r.spotOf p.2.2)))))
def iniB (r : RowD) (K : PySem.W.Frag) (p : Nat × Option Nat) : Bool := match p.2 with
  | some f => PySem.W.makesIn K (He.ga K (r.ck.cn p.1)) && (He.eqO (PySem.W.findIn K (.ref (He.ga K (r.ck.cn p.1))) "__init__") (some (some (.ref (He.fAd K (r.spotOf f))))) && (PySem.W.isFn K (.ref (He.fAd K (r.spotOf f))) && PySem.W.keepIn K (.ref (He.ga K (r.ck.cn p.1)))))
  | none => PySem.W.makesIn K (He.ga K (r.ck.cn p.1)) && (decide (PySem.W.findIn K (.ref (He.ga K (r.ck.cn p.1))) "__init__" = some (some (.builtin "object.__init__"))) && (decide (PySem.W.mroIn K (He.ga K (r.ck.cn p.1)) (.type "object") = some true) && PySem.W.keepIn K (.ref (He.ga K (r.ck.cn p.1)))))
def insB (K : PySem.W.Frag) (C : Addr) : Bool := He.eqO (PySem.W.findIn K (.ref C) "__class__") (some (some (.builtin "object.__class__"))) && (decide (PySem.W.specialIn K (.builtin "object.__class__") "__get__" = some (some (.builtin "getset_descriptor.__get__"))) && (decide (PySem.W.takesIn K (.builtin "object.__class__") = some true) && decide (PySem.W.mroIn K C (.type "object") = some true)))
def isiB (r : RowD) (K : PySem.W.Frag) (k : Nat) : Bool := ((r.hcl ++ r.hxl).all fun k' => decide (PySem.W.kitOne K (.ref (He.ga K (r.ck.cn k))) (.ref (He.ga K (r.ck.cn k'))) = some (r.subs.contains (k, k')))) && (["NoneType", "bool", "int", "str"].all fun t => decide (PySem.W.kitOne K (.type t) (.ref (He.ga K (r.ck.cn k))) = some false))
def excB (r : RowD) (K : PySem.W.Frag) (k : Nat) : Bool := xfB K (He.ga K (r.ck.cn k)) && (insB K (He.ga K (r.ck.cn k)) && (decide (PySem.W.typeIn K (.ref (He.ga K (r.ck.cn k))) = some (.type "type")) && ((He.Fa.glo (r.ck.cn k)).ok K && ((r.an.all fun x => (He.Fa.noat (r.ck.cn k) x).ok K) &&
  (decide (PySem.W.kitOne K (.ref (He.ga K (r.ck.cn k))) (.type "ValueError") = some (r.subs.contains (k, 99))) && (r.hxl.all fun k' => decide (PySem.W.exmOne K (.ref (He.ga K (r.ck.cn k))) (.ref (He.ga K (r.ck.cn k'))) = some (r.subs.contains (k, k'))))))))) 
def mkxB (r : RowD) (K : PySem.W.Frag) (p : Nat × List Nat) : Bool := !p.2.isEmpty || (PySem.W.excIn K (He.ga K (r.ck.cn p.1)) veM "ValueError.__new__" && PySem.W.keepIn K (.ref (He.ga K (r.ck.cn p.1))))
def oexB (K : PySem.W.Frag) (C : Addr) : Bool := match K.lookup C with
  | some ⟨.type "type", _, .cls cd, sl⟩ => (match cd.mro, sl.toList with
    | .ref C' :: bm, [_, _, _, _, some (.builtin n), _] => C' == C && (n == "ValueError.__new__" && (!cd.hasDel && (cd.hasDict && PySem.HandSPX.refsVE bm)))
    | _, _ => false)
  | _ => false
def tiB (K : PySem.W.Frag) (C : Addr) : Bool := decide (PySem.W.specialIn K (.ref C) "__getattribute__" = some (some (.builtin "type.__getattribute__"))) && (decide (PySem.W.typeIn K (.ref C) = some (.type "type")) && (PySem.W.readsIn K C (.type "type") && (match PySem.W.findCls K (.ref C) (.type "type") "__init__" with
  | some (.val (.builtin n)) => n == "ValueError.__init__"
  | _ => false)))
def xiB (r : RowD) (K : PySem.W.Frag) (x : XI) : Bool := oexB K (He.ga K (r.ck.cn x.k)) && (decide (PySem.W.findIn K (.ref (He.ga K (r.ck.cn x.k))) "__setattr__" = some (some (.builtin "object.__setattr__"))) && (PySem.W.keepIn K (.ref (He.ga K (r.ck.cn x.k))) && (He.eqO (PySem.W.findIn K (.ref (He.ga K (r.ck.cn x.k))) "__init__") (some (some (.ref (He.fAd K x.fe.spot)))) &&
  (decide (PySem.W.typeIn K (.ref (He.fAd K x.fe.spot)) = some (.type "function")) && (feB K x.fe && ((He.Fa.glo x.bn).ok K && tiB K (He.ga K x.bn)))))))
def okX (r : RowD) (K : PySem.W.Frag) : Bool := (r.hxl.all fun k => excB r K k) && ((r.exns.all fun p => mkxB r K p) && (r.xis.all fun x => xiB r K x))
def okK (r : RowD) (K : PySem.W.Frag) : Bool := (r.fes.all fun e => feB K e) && ((r.fnl.all fun p => He.eqO (PySem.W.nsIn K mainGlobals p.2) (some (some (.ref (He.fAd K (r.spotOf p.1)))))) && ((r.hcl.all fun k => clsB r K k && insB K (He.ga K (r.ck.cn k))) && ((r.mt.all fun p => mthB r K p) &&
  ((r.inis.all fun p => iniB r K p) && ((r.globs.all fun p => globB K (r.ck.gn p.1) p.2) && ((blts.all fun x => (He.Fa.free x).ok K) && (((r.hcl ++ r.hxl).all fun k => isiB r K k) && okX r K)))))))
/-- the text of an exception's __init__ -/
def iniTB (bn x0 x1 x2 a1 a2 : Str) (b : List Stmt) : Bool := match b with
  | [.Expr (.Call (.Attribute (.Name y0 _) y1 p2) [.Name y2 _, .Constant (.str _) _ _] [] p5) _, .Assign [.Attribute (.Name z0 _) z1 _] (.Name z2 _) _, .Assign [.Attribute (.Name w0 _) w1 _] (.Name w2 _) _] =>
    (p2.endLine == p5.line) && (eS y0 bn && (eS y1 "__init__" && (eS y2 x0 && (eS z0 x0 && (eS z1 a1 && (eS z2 x1 && (eS w0 x0 && (eS w1 a2 && eS w2 x2))))))))
  | _ => false
def xiS (r : RowD) (x : XI) : Bool := match x.fe.N with
  | [x0, x1, x2] => decide (x.fe.P = [x0, x1, x2]) && (fnScB [x0, x1, x2] [x0, x1, x2] (defScope x.fe.st) && (iniTB x.bn x0 x1 x2 (r.ck.an x.f1) (r.ck.an x.f2) (defBody x.fe.st) && (visB (defScope x.fe.st) x0 && (visB (defScope x.fe.st) x1 && (visB (defScope x.fe.st) x2 && glB (defScope x.fe.st) x.bn)))))
  | _ => false
/-- an exception's fields and its __init__ -/
def xnB (r : RowD) (p : Nat × List Nat) : Bool := r.hxl.contains p.1 && (p.2.isEmpty || r.xis.any fun x => x.k == p.1 && (decide (p.2 = [x.f1, x.f2]) && (decide (x.f1 ≠ x.f2) && (r.ck.ha x.f1 && (r.ck.ha x.f2 && xiS r x)))))
def hotFB (r : RowD) (f : Nat) : Bool := match r.T.fn f with
  | some fd => hotS (fun g => r.hsl.contains g) fd.body
  | none => true
def okXS (r : RowD) : Bool := (r.exns.all fun p => xnB r p) && r.hsl.all fun f => hotFB r f
/-- what the row's text has to show by itself -/
def okS (r : RowD) : Bool := decide (r.fes.map (·.id)).Nodup && (decide r.an.Nodup && ((r.an.all fun x => decide (x ≠ "") && !r.mn.contains x) && ((r.fnl.all fun p => !(p.2 == ("__debug__" : Str)) && (r.fes.map (·.id)).contains p.1) && ((r.mt.all fun p => (r.fes.map (·.id)).contains p.2.2 && (!r.gcm.contains p.2.1 || match r.T.fn p.2.2 with
    | some fd => fd.gc
    | none => false)) &&
  ((r.inis.all fun p => r.hcl.contains p.1 && match p.2 with
    | some f => (r.fes.map (·.id)).contains f
    | none => true) && ((r.fes.all fun e => fnB r.ck e.fd e.st e.N e.P) && okXS r))))))
/-- the arguments go to the parameters one by one -/
def PlB (e : FE) : Prop := ∀ (kV doc pm : Value) (an : Option Addr) (cdv ct : Value) (us : List Value), us.length = e.P.length → bindArgs (PySem.W.fnOf e.x e.qual (defArgs e.st) (defBody e.st) (defScope e.st) .none kV doc pm an cdv ct) ⟨us, []⟩ = pure (e.P.zip us)
theorem pl_nil : ∀ e ∈ ([] : List FE), PlB e := fun e h => by cases h
theorem pl_cons {f : FE} {l : List FE} (h : PlB f) (t : ∀ e ∈ l, PlB e) : ∀ e ∈ f :: l, PlB e := fun e he => by
  rcases List.mem_cons.mp he with rfl | he
  · exact h
  · exact t e he
/-! ### the reading of these -/
section
variable {r : RowD} {K : PySem.W.Frag}
theorem lookup_mem {α β : Type} [BEq α] [LawfulBEq α] {k : α} {v : β} : ∀ {l : List (α × β)}, l.lookup k = some v → (k, v) ∈ l
  | [], h => by cases h
  | (a, b) :: l, h => by
    rw [List.lookup_cons] at h
    split at h
    · rename_i q
      cases h
      rw [eq_of_beq q]
      exact List.mem_cons_self
    · exact List.mem_cons_of_mem _ (lookup_mem h)
theorem lookup_nodup {α β : Type} [BEq α] [LawfulBEq α] {k : α} {v : β} : ∀ {l : List (α × β)}, (l.map (·.1)).Nodup → (k, v) ∈ l → l.lookup k = some v
  | [], _, h => by cases h
  | (a, b) :: l, n, h => by
    rw [List.map_cons, List.nodup_cons] at n
    rw [List.lookup_cons]
    rcases List.mem_cons.mp h with e | h2
    · cases e
      rw [show ((k == (k, v).1) = true) from beq_self_eq_true k]
    · have : (k == a) = false := by
        rw [beq_eq_false_iff_ne]
        intro ek
        subst ek
        exact n.1 (List.mem_map.mpr ⟨(k, v), h2, rfl⟩)
      rw [show ((k == (a, b).1) = false) from this]
      exact lookup_nodup n.2 h2
/-- the entry of a number -/
theorem fe_of {f : Nat} {fd : Fn} (h : r.T.fn f = some fd) : ∃ e ∈ r.fes, e.id = f ∧ e.fd = fd := by
  have := lookup_mem h
  obtain ⟨e, he, q⟩ := List.mem_map.mp this
  cases q
  exact ⟨e, he, rfl, rfl⟩
theorem nd_map {β : Type} (g : FE → β) (nd : (r.fes.map (·.id)).Nodup) {e : FE} (he : e ∈ r.fes) : (r.fes.map fun e => (e.id, g e)).lookup e.id = some (g e) := by
  refine lookup_nodup ?_ (List.mem_map.mpr ⟨e, he, rfl⟩)
  rw [List.map_map]
  exact nd
theorem spot_of (nd : (r.fes.map (·.id)).Nodup) {e : FE} (he : e ∈ r.fes) : r.spotOf e.id = e.spot := by
  unfold spotOf
  rw [nd_map (fun e => e.spot) nd he]
  rfl
theorem ps_of (nd : (r.fes.map (·.id)).Nodup) {e : FE} (he : e ∈ r.fes) : r.psOf e.id = e.P := by
  unfold psOf
  rw [nd_map (fun e => e.P) nd he]
  rfl
theorem fn_of_id (nd : (r.fes.map (·.id)).Nodup) {f : Nat} (h : (r.fes.map (·.id)).contains f = true) : ∃ fd, r.T.fn f = some fd := by
  rw [List.contains_iff_mem] at h
  obtain ⟨e, he, rfl⟩ := List.mem_map.mp h
  exact ⟨e.fd, nd_map (fun e => e.fd) nd he⟩
theorem fe_fun {e : FE} (hw : He.fnW K e.spot = feV e) (hb : feB K e = true) : Fun K e.x e.qual e.st (He.fAd K e.spot) (fdAt K (He.fAd K e.spot)) := by
  obtain ⟨kp, c2⟩ := b2 hb
  unfold He.fnW feV at hw
  unfold fdAt
  cases q : K.lookup (He.fAd K e.spot) with
  | none =>
    rw [q] at c2
    cases c2
  | some o =>
    obtain ⟨oc, od, dt, osl⟩ := o
    rw [q] at c2 hw
    cases dt with
    | func fd =>
      obtain ⟨n1, n2, n3, n4, n5, n6, n7, n8, n9, n10, n11, n12, n13, n14, n15⟩ := fd
      have e2 : (some (n1, n2, n3, n4, n5, n6, n7, n15) : He.FnW) = some (e.x, e.qual, defArgs e.st, .stmts (defBody e.st), defScope e.st, mainGlobals, [], builtinsNs) := hw
      simp only [Option.some.injEq, Prod.mk.injEq] at e2
      obtain ⟨h1, h2, h3, h4, h5, h6, h7, h8⟩ := e2
      obtain ⟨k1, k2⟩ := b2 (show (PySem.W.codeIn K n13 e.qual && isNone n8) = true from c2)
      have k3 : n8 = Value.none := by
        cases n8 <;> first | rfl | cases k2
      subst h1 h2 h3 h4 h5 h6 h7 h8 k3
      exact ⟨⟨oc, od, n9, n10, n11, n12, n13, n14, osl, rfl, q, k1⟩, kp⟩
    | _ => cases c2
theorem fe_binds {e : FE} (F : Fun K e.x e.qual e.st (He.fAd K e.spot) (fdAt K (He.fAd K e.spot))) (pl : PlB e) : Binds K (fdAt K (He.fAd K e.spot)) e.P [] := by
  obtain ⟨oc, od, kV, doc, pm, an, cdv, ct, osl, h1, h2, h3⟩ := F.ex
  rw [h1]
  exact .all (pl kV doc pm an cdv ct)
theorem strV_rep {c : Cz} : ∀ {ds : List D} {vs : List V}, strOk ds = true → strV ds = some vs → ∀ φ M H L, RepL c φ M H L ds vs
  | [], vs, _, h, _, _, _, _ => by
    cases h
    rfl
  | d :: r, vs, ho, h, φ, M, H, L => by
    cases d with
    | str z =>
      obtain ⟨h1, h2⟩ := b2 (show (okTB z && strOk r) = true from ho)
      have h : (strV r).map (V.str (tx z) :: ·) = some vs := h
      rw [Option.map_eq_some_iff] at h
      obtain ⟨ws, h3, rfl⟩ := h
      exact ⟨_, ws, rfl, ⟨rfl, okTB_ok h1⟩, strV_rep h2 h3 φ M H L⟩
    | _ => cases ho
theorem glob_ok {c : Cz} (hc : c.K = K) {h : Heap} {mg : Str → Option Value} (X : K.In h) (G : h.Ns mainGlobals mg) {x : Str} {d : D} (hg : globB K x d = true) : ∃ u v, mg x = some u ∧ RelV v u ∧ ∀ φ M H L, Rep c φ M H L d v := by
  subst hc
  cases d with
  | str z =>
    obtain ⟨h1, h2⟩ := b2 (show (okTB z && _) = true from hg)
    split at h2
    · rename_i y t e
      cases (eS_ok h2)
      exact ⟨_, .str (tx z), PySem.W.mg_of X G e, ⟨t, rfl⟩, fun _ _ _ _ => ⟨rfl, okTB_ok h1⟩⟩
    · cases h2
  | int i =>
    have h2 : (match PySem.W.nsIn c.K mainGlobals x with
      | some (some (.int j _)) => decide (j = i)
      | _ => false) = true := hg
    split at h2
    · rename_i y t e
      cases (of_decide_eq_true h2)
      exact ⟨_, .int _, PySem.W.mg_of X G e, ⟨t, rfl⟩, fun _ _ _ _ => rfl⟩
    · cases h2
  | tup ds =>
    obtain ⟨h1, h2⟩ := b2 (show (strOk ds && _) = true from hg)
    split at h2
    · rename_i a e
      split at h2
      · rename_i cn od its n osl ek
        obtain ⟨h3, h2⟩ := b2 h2
        obtain ⟨h4, h2⟩ := b2 h2
        split at h2
        · rename_i vs ev
          refine ⟨_, .ref a, PySem.W.mg_of X G e, rfl, fun φ M H L => ⟨a, vs, rfl, .inr ⟨_, its, n, ek, congrArg Value.type (of_decide_eq_true h3), rfl, of_decide_eq_true h4, He.relAll_ok h2⟩, strV_rep h1 ev φ M H L⟩⟩
        · cases h2
      · cases h2
    · cases h2
  | _ => cases hg
theorem getD_inj {l : List Str} (nd : l.Nodup) {f g : Nat} (hf : f < l.length) (hg : g < l.length) (e : l.getD f "" = l.getD g "") : f = g := by
  rw [List.getD_eq_getElem?_getD, List.getD_eq_getElem?_getD, List.getElem?_eq_getElem hf, List.getElem?_eq_getElem hg] at e
  exact (List.getElem_inj nd).mp e
theorem insB_ok {C : Addr} (h : insB K C = true) : InsF K C := by
  obtain ⟨h1, h2⟩ := b2 h
  obtain ⟨h2, h3⟩ := b2 h2
  obtain ⟨h3, h4⟩ := b2 h3
  exact ⟨He.eqO_ok h1, of_decide_eq_true h2, of_decide_eq_true h3, of_decide_eq_true h4⟩
theorem oexB_ok {C : Addr} (h : oexB K C = true) : ∃ nm q N bs bm sn sub ab col dd k0 k1 k2 k3 k5, K.lookup C = some (excClassObj nm q C N bs bm true sn sub ab col dd k0 k1 k2 k3 k5 "ValueError.__new__") ∧ PySem.HandSPX.refsVE bm = true := by
  unfold oexB at h
  split at h
  · rename_i dd cd sl ho
    split at h
    · rename_i C' bm k0 k1 k2 k3 n k5 hm hs
      obtain ⟨h1, h⟩ := b2 h
      obtain ⟨h2, h⟩ := b2 h
      obtain ⟨h3, h⟩ := b2 h
      obtain ⟨h4, h5⟩ := b2 h
      obtain ⟨nm, bs, mro, ns, qn, hd, sn, sub, ab, col, del⟩ := cd
      have e1 := eq_of_beq h1
      have e2 := eq_of_beq h2
      dsimp only at hm h3 h4
      subst e1 e2 hm
      have hsl : sl = #[k0, k1, k2, k3, some (.builtin "ValueError.__new__"), k5] := by
        obtain ⟨l⟩ := sl
        simp only at hs
        rw [hs]
      subst hsl
      cases hd with
      | false => cases h4
      | true =>
        cases del with
        | true => cases h3
        | false => exact ⟨nm, qn, ns, bs, bm, sn, sub, ab, col, dd, k0, k1, k2, k3, k5, ho, h5⟩
    · cases h
  · cases h
theorem tiB_ok {C : Addr} (h : tiB K C = true) : TiC K C := by
  obtain ⟨h1, h⟩ := b2 h
  obtain ⟨h2, h⟩ := b2 h
  obtain ⟨h3, h4⟩ := b2 h
  refine ⟨of_decide_eq_true h1, of_decide_eq_true h2, h3, ?_⟩
  split at h4
  · rename_i n e
    rw [e, eq_of_beq h4]
  · cases h4
theorem iniTB_ok {bn x0 x1 x2 a1 a2 : Str} {b : List Stmt} (h : iniTB bn x0 x1 x2 a1 a2 b = true) : iniT bn x0 x1 x2 a1 a2 b := by
  unfold iniTB at h
  split at h
  · obtain ⟨h0, h⟩ := b2 h
    obtain ⟨h1, h⟩ := b2 h
    obtain ⟨h2, h⟩ := b2 h
    obtain ⟨h3, h⟩ := b2 h
    obtain ⟨h4, h⟩ := b2 h
    obtain ⟨h5, h⟩ := b2 h
    obtain ⟨h6, h⟩ := b2 h
    obtain ⟨h7, h⟩ := b2 h
    obtain ⟨h8, h9⟩ := b2 h
    have e1 := eS_ok h1
    have e2 := eS_ok h2
    have e3 := eS_ok h3
    have e4 := eS_ok h4
    have e5 := eS_ok h5
    have e6 := eS_ok h6
    have e7 := eS_ok h7
    have e8 := eS_ok h8
    have e9 := eS_ok h9
    exact ⟨_, _, _, _, _, _, _, _, _, _, _, _, _, _, _, _, h0, by rw [e1, e2, e3, e4, e5, e6, e7, e8, e9]⟩
  · cases h
theorem xi_ok {h : Heap} {mg : Str → Option Value} (X : K.In h) (G : h.Ns mainGlobals mg) {x : XI} (hb : xiB r K x = true) (hs : xiS r x = true) (hw : He.fnW K x.fe.spot = feV x.fe) (pl : PlB x.fe) (ex : PySem.W.subIn K (.ref (He.ga K (r.ck.cn x.k))) (.type "BaseException") = some true) (ty : PySem.W.typeIn K (.ref (He.ga K (r.ck.cn x.k))) = some (.type "type")) :
    ∃ fI fd y qual st x0 x1 x2 bn C0, IniF K mg (He.ga K (r.ck.cn x.k)) (r.ck.an x.f1) (r.ck.an x.f2) fI fd y qual st x0 x1 x2 bn C0 := by
  obtain ⟨h1, hb⟩ := b2 hb
  obtain ⟨h2, hb⟩ := b2 hb
  obtain ⟨h3, hb⟩ := b2 hb
  obtain ⟨h4, hb⟩ := b2 hb
  obtain ⟨h5, hb⟩ := b2 hb
  obtain ⟨h6, hb⟩ := b2 hb
  obtain ⟨h7, h8⟩ := b2 hb
  unfold xiS at hs
  split at hs
  · rename_i x0 x1 x2 eN
    obtain ⟨g1, hs⟩ := b2 hs
    obtain ⟨g2, hs⟩ := b2 hs
    obtain ⟨g3, hs⟩ := b2 hs
    obtain ⟨g4, hs⟩ := b2 hs
    obtain ⟨g5, hs⟩ := b2 hs
    obtain ⟨g6, g7⟩ := b2 hs
    have F := fe_fun hw h6
    have bi := fe_binds F pl
    rw [of_decide_eq_true g1] at bi
    exact ⟨He.fAd K x.fe.spot, fdAt K (He.fAd K x.fe.spot), x.fe.x, x.fe.qual, x.fe.st, x0, x1, x2, x.bn, He.ga K x.bn, ⟨oexB_ok h1, of_decide_eq_true h2, ex, ty, h3⟩, He.eqO_ok h4, of_decide_eq_true h5, F, fnScB_ok g2, bi, iniTB_ok g3, visB_ok g4, visB_ok g5, visB_ok g6, glB_ok g7, He.glo_ok X G h7, tiB_ok h8⟩
  · cases hs
theorem stf {h : Heap} {mg : Str → Option Value} (X : K.In h) (G : h.Ns mainGlobals mg) (hS : r.okS = true) (hK : r.okK K = true) (hW : r.all.map (fun e => He.fnW K e.spot) = r.all.map feV) (pl : ∀ e ∈ r.all, PlB e) :
    StF r.T (r.cz K) (r.nms K) mg ∧ ∀ f fd, r.T.fn f = some fd → ∃ x qual st N, FnS r.T (r.cz K) (r.nms K) f fd x qual st N := by
  obtain ⟨s1, hS⟩ := b2 hS
  obtain ⟨s2, hS⟩ := b2 hS
  obtain ⟨s3, hS⟩ := b2 hS
  obtain ⟨s4, hS⟩ := b2 hS
  obtain ⟨s5, hS⟩ := b2 hS
  obtain ⟨s6, hS⟩ := b2 hS
  obtain ⟨s7, s8⟩ := b2 hS
  obtain ⟨k1, hK⟩ := b2 hK
  obtain ⟨k2, hK⟩ := b2 hK
  obtain ⟨k3, hK⟩ := b2 hK
  obtain ⟨k4, hK⟩ := b2 hK
  obtain ⟨k5, hK⟩ := b2 hK
  obtain ⟨k6, hK⟩ := b2 hK
  obtain ⟨k7, hK⟩ := b2 hK
  obtain ⟨k8, k9⟩ := b2 hK
  obtain ⟨kx1, k9⟩ := b2 k9
  obtain ⟨kx2, kx3⟩ := b2 k9
  have nd := of_decide_eq_true s1
  rw [List.all_eq_true] at s3 s4 s5 s6 s7 k1 k2 k3 k4 k5 k6 k7 k8 kx1 kx2 kx3
  have sx2 : ∀ p ∈ r.exns, xnB r p = true := List.all_eq_true.mp (b2 s8).1
  have sx3 : ∀ f ∈ r.hsl, hotFB r f = true := List.all_eq_true.mp (b2 s8).2
  have hk_mem : ∀ k, (r.cz K).hk k = true → k ∈ r.hcl ++ r.hxl := fun k hk => by
    have hk : (r.hcl.contains k || r.hxl.contains k) = true := hk
    rw [Bool.or_eq_true, List.contains_iff_mem, List.contains_iff_mem] at hk
    exact List.mem_append.mpr hk
  have kI : ∀ k, (r.cz K).hk k = true → isiB r K k = true := fun k hk => k8 k (hk_mem k hk)
  have sub : ∀ e ∈ r.fes, e ∈ r.all := fun e he => List.mem_append_left _ he
  have hw : ∀ e ∈ r.all, He.fnW K e.spot = feV e := fun e he => by
    obtain ⟨i, hi⟩ := List.mem_iff_getElem?.mp he
    have q : (r.all.map fun e => He.fnW K e.spot)[i]? = (r.all.map feV)[i]? := by rw [hW]
    rw [List.getElem?_map, List.getElem?_map, hi] at q
    exact Option.some.inj q
  have fF : ∀ e ∈ r.fes, Fun K e.x e.qual e.st (He.fAd K e.spot) (fdAt K (He.fAd K e.spot)) := fun e he => fe_fun (hw e (sub e he)) (k1 e he)
  have ha : ∀ f, r.ck.ha f = true → f < r.an.length := fun f h => Nat.le_of_ble_eq_true h
  have hin : ∀ f, r.ck.ha f = true → r.ck.an f ∈ r.an := fun f h => by
    show r.an.getD f "" ∈ r.an
    rw [List.getD_eq_getElem?_getD, List.getElem?_eq_getElem (ha f h)]
    exact List.getElem_mem (ha f h)
  refine ⟨⟨fun f fd e => ?_, fun f fd e => ?_, fun f fd e g => ?_, fun k hk => ?_, fun k f hk hf => ?_, fun k m f hk e => ?_, fun k f e => ?_, fun g d e => ?_, fun x hx => He.free_ok X G (k7 x hx), fun f g hf hg e => getD_inj (of_decide_eq_true s2) (ha f hf) (ha g hg) e, fun f m hf e => ?_, fun m hm k f fd e ef => ?_, fun f => ?_, fun f fd e hh => ?_, fun k e => ?_, fun f hf e => ?_, fun k hk => ?_, fun k hk => ?_, fun k k' hk hk' => ?_, fun k hk => ?_, fun k e => ?_, fun k ns e hne => ?_, fun k hk => ?_, fun k k' hk hk' => ?_, fun k hk t ht => ?_⟩, fun f fd e => ?_⟩
  · obtain ⟨fe, he, rfl, rfl⟩ := fe_of e
    show PySem.W.keepIn K (.ref (He.fAd K (r.spotOf fe.id))) = true
    rw [spot_of nd he]
    exact (fF fe he).kp
  · obtain ⟨fe, he, rfl, rfl⟩ := fe_of e
    show Binds K (fdAt K (He.fAd K (r.spotOf fe.id))) (r.psOf fe.id) []
    rw [spot_of nd he, ps_of nd he]
    exact fe_binds (fF fe he) (pl fe (sub fe he))
  · have g' : (r.fnl.lookup f).isSome = true := g
    obtain ⟨x, hx⟩ := Option.isSome_iff_exists.mp g'
    have k := k2 _ (lookup_mem hx)
    show mg ((r.fnl.lookup f).getD "") = some (.ref (He.fAd K (r.spotOf f)))
    rw [hx]
    exact PySem.W.mg_of X G (He.eqO_ok k)
  · have hk : r.hcl.contains k = true := hk
    rw [List.contains_iff_mem] at hk
    obtain ⟨h1, h2⟩ := b2 (b2 (k3 k hk)).1
    obtain ⟨h1, h3⟩ := b2 h1
    exact ⟨He.cls_ok h1, He.glo_ok X G h3⟩
  · have hk : r.hcl.contains k = true := hk
    rw [List.contains_iff_mem] at hk
    obtain ⟨h1, h2⟩ := b2 (b2 (k3 k hk)).1
    rw [List.all_eq_true] at h2
    exact He.noat_ok (h2 _ (hin f hf))
  · have m1 := lookup_mem e
    obtain ⟨p, hp, q⟩ := List.mem_map.mp m1
    obtain ⟨p1, p2, p3⟩ := p
    cases q
    have q4 := k4 _ hp
    have hk : r.hcl.contains p1 = true := hk
    unfold mthB at q4
    rw [hk, Bool.not_true, Bool.false_or] at q4
    obtain ⟨h1, q4⟩ := b2 q4
    obtain ⟨h2, h3⟩ := b2 q4
    exact ⟨⟨He.eqO_ok h1, h2, h3⟩, fn_of_id nd (b2 (s5 _ hp)).1⟩
  · have m1 := lookup_mem (l := r.inis) e
    have k := k5 _ m1
    have s := s6 _ m1
    obtain ⟨h1, k⟩ := b2 (show (_ && _) = true from k)
    obtain ⟨h2, k⟩ := b2 k
    obtain ⟨h3, h4⟩ := b2 k
    obtain ⟨t1, t2⟩ := b2 s
    exact ⟨⟨h1, He.eqO_ok h2, h3, h4⟩, t1, fn_of_id nd t2⟩
  · exact glob_ok rfl X G (k6 _ (lookup_mem (l := r.globs) e))
  · have s := s3 _ (hin f hf)
    obtain ⟨t1, t2⟩ := b2 s
    have e : r.ck.an f = r.mn.getD m "" := e
    rw [List.getD_eq_getElem?_getD] at e
    cases q : r.mn[m]? with
    | none =>
      rw [q] at e
      exact of_decide_eq_true t1 e
    | some y =>
      rw [q] at e
      have e : r.ck.an f = y := e
      rw [e] at t2
      have := List.mem_of_getElem? q
      simp [this] at t2
  · have m1 := lookup_mem e
    obtain ⟨p, hp, q⟩ := List.mem_map.mp m1
    obtain ⟨p1, p2, p3⟩ := p
    cases q
    have s := (b2 (s5 _ hp)).2
    have hm : r.gcm.contains p2 = true := hm
    rw [hm, Bool.not_true, Bool.false_or] at s
    rw [ef] at s
    exact s
  · show ((((r.fnl.lookup f).getD "" : Str)) == ("__debug__" : Str)) = false
    cases q : r.fnl.lookup f with
    | none => decide +kernel
    | some x =>
      have s := (b2 (s4 _ (lookup_mem q))).1
      simpa using s
  · have q := sx3 f (List.contains_iff_mem.mp hh)
    unfold hotFB at q
    rw [show r.T.fn f = some fd from e] at q
    exact q
  · have m1 := lookup_mem (l := r.inis) e
    have k := k5 _ m1
    have s := s6 _ m1
    obtain ⟨h1, k⟩ := b2 (show (_ && _) = true from k)
    obtain ⟨h2, k⟩ := b2 k
    obtain ⟨h3, h4⟩ := b2 k
    exact ⟨⟨h1, of_decide_eq_true h2, of_decide_eq_true h3, h4⟩, (b2 s).1⟩
  · exact of_decide_eq_true (b2 (s3 _ (hin f hf))).1 e
  · have hk : r.hcl.contains k = true := hk
    rw [List.contains_iff_mem] at hk
    exact insB_ok (b2 (k3 k hk)).2
  · have hk : r.hxl.contains k = true := hk
    rw [List.contains_iff_mem] at hk
    obtain ⟨h1, h⟩ := b2 (kx1 k hk)
    obtain ⟨h2, h⟩ := b2 h
    obtain ⟨h3, h⟩ := b2 h
    obtain ⟨h4, h⟩ := b2 h
    obtain ⟨h5, h⟩ := b2 h
    rw [List.all_eq_true] at h5
    have xf := xfB_ok h1
    have is := insB_ok h2
    exact ⟨xf, ⟨xf.ga, xf.gg, xf.exC, xf.hdC, is.ha, is.hn, is.htk, is.hm⟩, of_decide_eq_true h3, He.glo_ok X G h4, fun f hf => He.noat_ok (h5 _ (hin f hf))⟩
  · have hk : r.hxl.contains k = true := hk
    have hk' : r.hxl.contains k' = true := hk'
    rw [List.contains_iff_mem] at hk hk'
    have h := (b2 (b2 (b2 (b2 (b2 (b2 (kx1 k hk)).2).2).2).2).2).2
    rw [List.all_eq_true] at h
    exact of_decide_eq_true (h k' hk')
  · have hk : (r.exns.lookup k).isSome = true := hk
    intro z
    rw [show r.exns.lookup k = none from z] at hk
    cases hk
  · have m := lookup_mem (l := r.exns) e
    have h := kx2 _ m
    obtain ⟨h1, h2⟩ := b2 (show (PySem.W.excIn K (He.ga K (r.ck.cn k)) veM "ValueError.__new__" && PySem.W.keepIn K (.ref (He.ga K (r.ck.cn k)))) = true from h)
    exact ⟨(b2 (sx2 _ m)).1, h1, h2⟩
  · have m := lookup_mem (l := r.exns) e
    obtain ⟨h1, h⟩ := b2 (sx2 _ m)
    refine ⟨h1, ?_⟩
    rw [Bool.or_eq_true] at h
    rcases h with h | h
    · cases ns with
      | nil => exact absurd rfl hne
      | cons a b => cases h
    · rw [List.any_eq_true] at h
      obtain ⟨x, hx, h⟩ := h
      obtain ⟨g1, h⟩ := b2 h
      obtain ⟨g2, h⟩ := b2 h
      obtain ⟨g3, h⟩ := b2 h
      obtain ⟨g4, h⟩ := b2 h
      obtain ⟨g5, g6⟩ := b2 h
      have ek : x.k = k := eq_of_beq g1
      subst ek
      have mx : x.fe ∈ r.all := List.mem_append_right _ (List.mem_map.mpr ⟨x, hx, rfl⟩)
      exact ⟨x.f1, x.f2, of_decide_eq_true g2, g4, g5, fun z => of_decide_eq_true g3 (getD_inj (of_decide_eq_true s2) (ha _ g4) (ha _ g5) z), xi_ok X G (kx3 x hx) g6 (hw _ mx) (pl _ mx) (xfB_ok (b2 (kx1 _ (List.contains_iff_mem.mp h1))).1).exC (of_decide_eq_true (b2 (b2 (b2 (kx1 _ (List.contains_iff_mem.mp h1))).2).2).1)⟩
  · have hk : r.hxl.contains k = true := hk
    rw [List.contains_iff_mem] at hk
    exact of_decide_eq_true (b2 (b2 (b2 (b2 (b2 (b2 (kx1 k hk)).2).2).2).2).2).1
  · have h := (b2 (kI k hk)).1
    rw [List.all_eq_true] at h
    exact of_decide_eq_true (h k' (hk_mem k' hk'))
  · have h := (b2 (kI k hk)).2
    rw [List.all_eq_true] at h
    exact of_decide_eq_true (h t ht)
  · obtain ⟨fe, he, rfl, rfl⟩ := fe_of e
    refine ⟨fe.x, fe.qual, fe.st, fe.N, ?_⟩
    have s := s7 _ he
    obtain ⟨s, t4⟩ := b2 s
    obtain ⟨s, t3⟩ := b2 s
    obtain ⟨t1, t2⟩ := b2 s
    have hp := ps_of nd he
    refine ⟨?_, ?_, (ck_stm (r.ckOk K) _).2 _ _ t2, ?_, of_decide_eq_true t4⟩
    · show Fun K fe.x fe.qual fe.st (He.fAd K (r.spotOf fe.id)) (fdAt K (He.fAd K (r.spotOf fe.id)))
      rw [spot_of nd he]
      exact fF fe he
    · show FnScope fe.N (r.psOf fe.id) _
      rw [hp]
      exact fnScB_ok t1
    · show (r.psOf fe.id).length = fe.fd.np
      rw [hp]
      exact of_decide_eq_true t3
end
/-! ### the observation -/
def tuplesOf (r : RowD) : List Str := r.gnl.map (·.2)
def isCl (o : Obj) : Bool := match o.data with
  | .cls _ => true
  | _ => false
def spots (r : RowD) (g : Addr → Option Obj) : List Addr :=
  let l1 := mainGlobals :: cStatics :: ((r.fnl.map (·.2)) ++ r.cn ++ r.tuplesOf).map (He.ga (He.frG g [mainGlobals]))
  let l2 := l1 ++ l1.flatMap fun a => match g a with
    | some o => if isCl o then He.refsO o else []
    | none => []
  let ms := r.all.map fun e => He.fAd (He.frG g l2) e.spot
  l2 ++ ms ++ ms.flatMap fun a => match g a with
    | some ⟨_, _, .func fd, _⟩ => He.refV fd.code
    | _ => []
def obsR (r : RowD) (K : PySem.W.Frag) : He.AlD := (r.okK K, r.all.map fun e => He.fnW K e.spot)
def obsG (r : RowD) (g : Addr → Option Obj) : He.AlD := obsR r (He.frG g (r.spots g))
def valR (r : RowD) : He.AlD := (true, r.all.map feV)
def hook (r : RowD) : PySem.W.Hook where
  α := He.AlD
  obs := fun s => obsG r s.heap.get?
  val := fun _ => valR r
  says := fun _ h => ∃ K : PySem.W.Frag, K.In h ∧ obsR r K = valR r
  of := fun _ _ e => ⟨_, He.frG_in, e⟩
  keeps := fun _ _ _ ⟨K, hK, c⟩ k => ⟨K, PySem.W.Frag.In.keeps hK k, c⟩
def ob (r : RowD) (s : PySem.W.SharedT) : He.AlD := obsG r (HandSHeadRun.getT s)
theorem ob_eq (r : RowD) (s : PySem.W.SharedT) : ob r s = (hook r).obs s.abs := by
  show obsG r (HandSHeadRun.getT s) = obsG r s.abs.heap.get?
  rw [show HandSHeadRun.getT s = s.abs.heap.get? from funext (HandSHeadRun.getT_eq s)]
/-! ### the law's end -/
theorem cx_no {P : Program} {w : World} (H : Hp) (s : Shared) (e : Value) (s' : Shared) (h : L2.CX P w [] H s (fun _ _ _ => False) e s') : False := by
  obtain ⟨_, _, _, _, _, _, _, _, _, _, _, _, z⟩ := h
  exact z.elim
theorem law_end {r : RowD} {l : PySem.W.OpenLaw} {j i : Nat} {q : Program} {loose : List Str} {XP : (Str → Option Value) → Heap → Prop} {d : DefRec} {e : FE}
    (hn : l.most = some 63) (hdf : d.params.defaults = []) (hi : r.fes[i]? = some e) (hP : e.P = [("_law_script" : Str)]) (hx : d.name = ("law" : Str)) (hsp : e.spot = (("law" : Str), none)) (hr : Room (2 * j + 1) callerA)
    (hS : r.okS = true) (pl : ∀ e ∈ r.all, PlB e) (hlaw : ∀ ns : List Int, ns.length ≤ 63 → ∃ s', evFn r.T j false e.id [.scr ns] [] = .ok (.bl true) s') (hgl : (e.id, ("law" : Str)) ∈ r.fnl) :
    PySem.W.WalkO q loose XP (hook r).says l.row.toRowW d [] (fun f vs => PySem.call f vs) := by
  refine Att.attach_call hn hdf fun w s₀ s₁ mg mb fa o pm cd doc a vs ns G Y ho hd hcd hmg hobj hints hlen hg => ?_
  obtain ⟨K, KX, c⟩ := Y
  have c1 : r.okK K = true := congrArg (fun z : He.AlD => z.1) c
  have c2 : r.all.map (fun e => He.fnW K e.spot) = r.all.map feV := congrArg (fun z : He.AlD => z.2) c
  obtain ⟨St, hf⟩ := stf KX G.T.g hS c1 c2 pl
  have he := List.mem_of_getElem? hi
  have nd := of_decide_eq_true (b2 hS).1
  have ef : r.T.fn e.id = some e.fd := nd_map (fun e => e.fd) nd he
  have hfa : fa = He.fAd K (r.spotOf e.id) := by
    have k2 := (b2 (b2 c1).2).1
    rw [List.all_eq_true] at k2
    have m1 := PySem.W.mg_of KX G.T.g (He.eqO_ok (k2 _ hgl))
    rw [hx] at hmg
    have := hmg.symm.trans m1
    cases this
    rfl
  have hb : ∀ (s : Shared) (u : Value), BindsTo s ((r.nms K).fdt e.id) ⟨[u], []⟩ [("_law_script", u)] := fun s u => by
    have k1 := (b2 c1).1
    rw [List.all_eq_true] at k1
    have hw : He.fnW K e.spot = feV e := by
      obtain ⟨i', hi'⟩ := List.mem_iff_getElem?.mp (show e ∈ r.all from List.mem_append_left _ he)
      have q : (r.all.map fun e => He.fnW K e.spot)[i']? = (r.all.map feV)[i']? := by rw [c2]
      rw [List.getElem?_map, List.getElem?_map, hi'] at q
      exact Option.some.inj q
    obtain ⟨oc, od, kV, doc, pm, an, cdv, ct, osl, h1, h2, h3⟩ := (fe_fun hw (k1 e he)).ex
    show BindsTo s (fdAt K (He.fAd K (r.spotOf e.id))) ⟨[u], []⟩ [("_law_script", u)]
    rw [spot_of nd he, h1]
    have := pl e (List.mem_append_left _ he) kV doc pm an cdv ct [u] (by rw [hP]; rfl)
    rw [hP] at this
    exact .of_eq this
  have F : ∀ base : Heap, K.In base → base.Ns mainGlobals mg → FnOk l.prog w K mg base (L2.CX l.prog w) (2 * j + 1) fa ((r.nms K).fdt e.id) ["_law_script"] (spF (r.cz K) (evFn r.T j) e.fd.gc e.id) := fun base _ _ => by
    have := fn_all (P := l.prog) (w := w) (base := base) St hf j e.id e.fd ef
    have hp : (r.nms K).ps e.id = [("_law_script" : Str)] := (ps_of nd he).trans hP
    rw [hp] at this
    rw [hfa]
    exact this
  refine law_call KX G.T.g G.T.b G.T.builtins G.T.nolimit hg hobj hints (Nat.le_trans hlen (by decide)) hr F hb (fun H hO hS => ?_) fun H e s' => cx_no H s₁ e s'
  obtain ⟨s', hev⟩ := hlaw ns hlen
  refine .inl ⟨fun _ => 0, fun _ => False, [], [.scr ns], ?_, ?_, ?_⟩
  · have no : ∀ nm d, ¬ Act ⟨[], []⟩ nm d := fun nm d h => by
      have h1 := h.1
      cases nm <;> cases h1
    exact ⟨fun nm nm' d d' h => absurd h (no nm d), fun nm d h => absurd h (no nm d), fun nm d h => absurd h (no nm d), fun a h => h.elim⟩
  · refine ⟨_, [], rfl, ⟨a, rfl, ?_⟩, rfl⟩
    rcases hS with h | h
    · refine .inl ⟨fun z => ?_, h⟩
      rcases z with z | ⟨nm, d, z, _⟩
      · exact z
      · have h1 := z.1
        cases nm <;> cases h1
    · exact .inr h
  · show OutF _ _ _ _ _ _ (evFn r.T j false e.id [.scr ns] []) _ _
    rw [hev]
    intro v φ' Mo' H' _ _ _ _ vr _
    exact vr
end RowD
end TR
end

section
set_option Elab.async false
set_option linter.all false
set_option maxRecDepth 100000
set_option autoImplicit false
/-! TrW: what a term comes to, wished from its end (plain Lean). -/
namespace TR
/-- keeps a simplifier out of what comes later -/
structure Bx {α : Sort _} (a : α) : Type where
abbrev XP := Nat → List (Nat × D) → St → Prop
def R.w {α : Type} (r : R α) (Q : α → St → Prop) (X : XP) (_u : Bx Q := ⟨⟩) (_v : Bx X := ⟨⟩) : Prop := match r with
  | .ok a s => Q a s
  | .exc c fs s => X c fs s
  | .stuck => False
structure Ps where
  brk : St → Prop
  cnt : St → Prop
  ret : D → St → Prop
  exc : XP
def Fl.w (r : Fl) (N : St → Prop) (P : Ps) (_u : Bx N := ⟨⟩) (_v : Bx P := ⟨⟩) : Prop := match r with
  | .nx s => N s
  | .brk s => P.brk s
  | .cnt s => P.cnt s
  | .ret d s => P.ret d s
  | .exc c fs s => P.exc c fs s
  | .stuck => False
theorem Rw_ext {α : Type} {r : R α} {Q Q2 : α → St → Prop} {X : XP} (h : ∀ a s, Q a s = Q2 a s) : r.w Q X = r.w Q2 X := by
  have e : Q = Q2 := funext fun a => funext fun s => h a s
  subst e
  rfl
theorem bind_w {α β : Type} (r : R α) (k : α → St → R β) (Q : β → St → Prop) (X : XP) : (r.bind k).w Q X = r.w (fun a s => (k a s).w Q X) X := by cases r <;> rfl
theorem fl_w {α : Type} (r : R α) (k : α → St → Fl) (N : St → Prop) (P : Ps) : (r.fl k).w N P = r.w (fun a s => (k a s).w N P) P.exc := by cases r <;> rfl
theorem then_w (r : Fl) (k : St → Fl) (N : St → Prop) (P : Ps) : (r.then k).w N P = r.w (fun s => (k s).w N P) P := by cases r <;> rfl
def oW {α : Type} (o : Option α) (Q : α → Prop) (_u : Bx Q := ⟨⟩) : Prop := match o with
  | some a => Q a
  | none => False
theorem oW_ext {α : Type} {o : Option α} {Q Q2 : α → Prop} (h : ∀ a, Q a = Q2 a) : oW o Q = oW o Q2 := by
  have e : Q = Q2 := funext h
  subst e
  rfl
theorem oW_some {α : Type} (a : α) (Q : α → Prop) : oW (some a) Q = Q a := (rfl)
theorem of_w {α : Type} (o : Option α) (s : St) (Q : α → St → Prop) (X : XP) : (R.of o s).w Q X = oW o fun a => Q a s := by cases o <;> rfl
theorem ok_w {α : Type} (a : α) (s : St) (Q : α → St → Prop) (X : XP) : (R.ok a s).w Q X = Q a s := (rfl)
theorem exc_w {α : Type} (c : Nat) (fs : List (Nat × D)) (s : St) (Q : α → St → Prop) (X : XP) : (R.exc c fs s : R α).w Q X = X c fs s := (rfl)
theorem nx_w (s : St) (N : St → Prop) (P : Ps) : (Fl.nx s).w N P = N s := (rfl)
theorem ret_w (d : D) (s : St) (N : St → Prop) (P : Ps) : (Fl.ret d s).w N P = P.ret d s := (rfl)
theorem asB_w (r : R D) (Q : Bool → St → Prop) (X : XP) : (asB r).w Q X = r.w (fun d s => match d with | .bl b => Q b s | _ => False) X := by
  unfold asB
  rw [bind_w]
  refine Rw_ext fun d s => ?_
  cases d <;> rfl
def vW (o : Option (Option D)) (i : Nat) (Q : D → Prop) (_u : Bx Q := ⟨⟩) : Prop := match o with
  | some (some d) => if owned d then (match d with
      | .hid => False
      | _ => Q (.sref i)) else Q d
  | _ => False
section
variable {T : Tb} {F : Fi}
@[irreducible] def wE (T : Tb) (F : Fi) (e : E) (s : St) (Q : D → St → Prop) (X : XP) (_u : Bx Q := ⟨⟩) (_v : Bx X := ⟨⟩) : Prop := (evE T F e s).w Q X
@[irreducible] def wA (T : Tb) (F : Fi) (e : E) (s : St) (Q : List D → St → Prop) (X : XP) (_u : Bx Q := ⟨⟩) (_v : Bx X := ⟨⟩) : Prop := (evA T F e s).w Q X
@[irreducible] def wB (T : Tb) (F : Fi) (e : E) (s : St) (Q : List D → St → Prop) (X : XP) (_u : Bx Q := ⟨⟩) (_v : Bx X := ⟨⟩) : Prop := (evB T F e s).w Q X
@[irreducible] def wS (T : Tb) (F : Fi) (e : S) (s : St) (N : St → Prop) (P : Ps) (_u : Bx N := ⟨⟩) (_v : Bx P := ⟨⟩) : Prop := (evS T F e s).w N P
variable {a b c d i lo hi t o elt cond : E} {s : St} {Q : D → St → Prop} {X : XP}
/-- a value that is held while another is made -/
def hF (T : Tb) (x : D) (b : E) (P : Prop) (_u : Bx P := ⟨⟩) : Prop := if isF x && !b.calm T then False else P
theorem wE_non : wE T F .non s Q X = Q .non s := by unfold wE; rw [evE]; rfl
theorem wE_bl {b : Bool} : wE T F (.bl b) s Q X = Q (.bl b) s := by unfold wE; rw [evE]; rfl
theorem wE_int {i : Int} : wE T F (.int i) s Q X = Q (.int i) s := by unfold wE; rw [evE]; rfl
theorem wE_str {z : Tx} : wE T F (.str z) s Q X = Q (.str z) s := by unfold wE; rw [evE]; rfl
theorem wE_var {i : Nat} : wE T F (.var i) s Q X = vW s.env[i]? i fun d => Q d s := by
  unfold wE vW
  rw [evE]
  cases h : s.env[i]? with
  | none => rfl
  | some o =>
    cases o with
    | none => rfl
    | some d => cases d <;> rfl
theorem wE_glob {g : Nat} : wE T F (.glob g) s Q X = oW (T.glob g) fun d => Q d s := by unfold wE; rw [evE, of_w]
theorem wE_tup : wE T F (.tup a) s Q X = wA T F a s (fun ds s => Q (.tup ds) s) X := by unfold wE wA; rw [evE, bind_w]; rfl
theorem wE_lst : wE T F (.lst a) s Q X = wA T F a s (fun ds s => Q (.olst ds) s) X := by unfold wE wA; rw [evE, bind_w]; rfl
theorem wE_dic0 : wE T F .dic0 s Q X = Q (.odct []) s := by unfold wE; rw [evE]; rfl
theorem wE_cel : wE T F (.cel a) s Q X = wE T F a s (fun d s => match d with
    | .olst _ => Q (.loc s.sto.length) { s with sto := s.sto ++ [d] }
    | .odct _ => Q (.loc s.sto.length) { s with sto := s.sto ++ [d] }
    | _ => False) X := by
  unfold wE
  rw [evE, bind_w]
  refine Rw_ext fun d s => ?_
  cases d <;> rfl
theorem hF_ext {x : D} {b : E} {P P2 : Prop} (h : P = P2) : hF T x b P = hF T x b P2 := by
  subst h
  rfl
theorem held_w {α : Type} (x : D) (b : E) (r : R α) (Q : α → St → Prop) (X : XP) : (if isF x && !b.calm T then R.stuck else r).w Q X = hF T x b (r.w Q X) := by
  unfold hF
  split <;> rfl
theorem wE_bin {o : Bo} : wE T F (.bin o a b) s Q X = wE T F a s (fun x s => hF T x b (wE T F b s (fun y s => oW (binD o s x y) fun d => Q d s) X)) X := by
  unfold wE
  rw [evE, bind_w]
  refine Rw_ext fun x s => ?_
  rw [held_w, bind_w]
  exact hF_ext (Rw_ext fun y s => of_w _ _ _ _)
theorem wE_neg : wE T F (.neg a) s Q X = wE T F a s (fun x s => match x with
    | .int i => Q (.int (-i)) s
    | _ => False) X := by
  unfold wE
  rw [evE, bind_w]
  refine Rw_ext fun d s => ?_
  cases d <;> rfl
theorem oWmap {α β : Type} (o : Option α) (f : α → β) (Q : β → Prop) : oW (o.map f) Q = oW o fun a => Q (f a) := by cases o <;> rfl
theorem wE_cmp {o : Co} : wE T F (.cmp o a b) s Q X = wE T F a s (fun x s => hF T x b (wE T F b s (fun y s => oW (cmpD o s x y) fun d => Q (.bl d) s) X)) X := by
  unfold wE
  rw [evE, bind_w]
  refine Rw_ext fun x s => ?_
  rw [held_w, bind_w]
  exact hF_ext (Rw_ext fun y s => by rw [of_w, oWmap])
theorem wE_isN : wE T F (.isN a) s Q X = wE T F a s (fun x s => Q (.bl (isNon x)) s) X := by unfold wE; rw [evE, bind_w]; rfl
theorem wE_notN : wE T F (.notN a) s Q X = wE T F a s (fun x s => Q (.bl (!isNon x)) s) X := by unfold wE; rw [evE, bind_w]; rfl
theorem wE_chn {o1 o2 : Co} : wE T F (.chn o1 o2 a b c) s Q X = wE T F a s (fun x s => hF T x b (wE T F b s (fun y s => oW (cmpD o1 s x y) fun r => if r then (if isF y then False else wE T F c s (fun z s => oW (cmpD o2 s y z) fun d => Q (.bl d) s) X) else Q (.bl false) s) X)) X := by
  unfold wE
  rw [evE, bind_w]
  refine Rw_ext fun x s => ?_
  rw [held_w, bind_w]
  refine hF_ext (Rw_ext fun y s => ?_)
  cases cmpD o1 s x y with
  | none => rfl
  | some r =>
    cases r with
    | false => rfl
    | true =>
      show (if isF y = true then R.stuck else _).w Q X = if isF y = true then False else _
      split
      · rfl
      · rw [bind_w]
        exact Rw_ext fun z s => by rw [of_w, oWmap]
def bW (d : D) (Q : Bool → Prop) (_u : Bx Q := ⟨⟩) : Prop := match d with
  | .bl b => Q b
  | _ => False
theorem bW_ext {d : D} {Q Q2 : Bool → Prop} (h : ∀ a, Q a = Q2 a) : bW d Q = bW d Q2 := by
  have e : Q = Q2 := funext h
  subst e
  rfl
theorem bW_bl (b : Bool) (Q : Bool → Prop) : bW (.bl b) Q = Q b := (rfl)
theorem asB_w' (r : R D) (Q : Bool → St → Prop) (X : XP) : (asB r).w Q X = r.w (fun d s => bW d fun b => Q b s) X := by
  rw [asB_w]
  exact Rw_ext fun d s => by cases d <;> rfl
theorem wE_and : wE T F (.and a b) s Q X = wE T F a s (fun d s => bW d fun c => if c then wE T F b s (fun d s => bW d fun c => Q (.bl c) s) X else Q (.bl false) s) X := by
  unfold wE
  rw [evE, bind_w, asB_w']
  refine Rw_ext fun d s => ?_
  refine bW_ext fun c => ?_
  cases c
  · rfl
  · show R.w (R.bind _ _) Q X = _
    rw [bind_w, asB_w']
    rfl
theorem wE_or : wE T F (.or a b) s Q X = wE T F a s (fun d s => bW d fun c => if c then Q (.bl true) s else wE T F b s (fun d s => bW d fun c => Q (.bl c) s) X) X := by
  unfold wE
  rw [evE, bind_w, asB_w']
  refine Rw_ext fun d s => ?_
  refine bW_ext fun c => ?_
  cases c
  · show R.w (R.bind _ _) Q X = _
    rw [bind_w, asB_w']
    rfl
  · rfl
theorem wE_not : wE T F (.not a) s Q X = wE T F a s (fun d s => bW d fun c => Q (.bl (!c)) s) X := by
  unfold wE
  rw [evE, bind_w, asB_w']
  rfl
theorem wE_ife : wE T F (.ife t a b) s Q X = wE T F t s (fun d s => bW d fun c => if c then wE T F a s Q X else wE T F b s Q X) X := by
  unfold wE
  rw [evE, bind_w, asB_w']
  refine Rw_ext fun d s => ?_
  refine bW_ext fun c => ?_
  cases c <;> rfl
theorem wE_ix : wE T F (.ix a i) s Q X = wE T F a s (fun x s => hF T x i (wE T F i s (fun y s => oW (ixD s x y) fun d => Q d s) X)) X := by
  unfold wE
  rw [evE, bind_w]
  refine Rw_ext fun x s => ?_
  rw [held_w, bind_w]
  exact hF_ext (Rw_ext fun y s => of_w _ _ _ _)
/-- a bound of a slice -/
@[irreducible] def wO (T : Tb) (F : Fi) (e : E) (s : St) (Q : Option Int → St → Prop) (X : XP) (_u : Bx Q := ⟨⟩) (_v : Bx X := ⟨⟩) : Prop := (optI e (evE T F e) s).w Q X
theorem wO_nil {Q : Option Int → St → Prop} : wO T F .nil s Q X = Q none s := by unfold wO; rfl
theorem wO_some {Q : Option Int → St → Prop} (h : isNil a = false) : wO T F a s Q X = wE T F a s (fun d s => match d with
    | .int i => Q (some i) s
    | _ => False) X := by
  have e : optI a (evE T F a) s = ((evE T F a s).bind fun d s => match d with
    | .int i => .ok (some i) s
    | _ => .stuck) := by cases a <;> first | rfl | cases h
  unfold wO wE
  rw [e, bind_w]
  refine Rw_ext fun d s => ?_
  cases d <;> rfl
theorem wE_sl : wE T F (.sl a lo hi) s Q X = wE T F a s (fun x s => if isF x && !(lo.calm T && hi.calm T) then False else wO T F lo s (fun l s => wO T F hi s (fun h s => oW (slD s x l h) fun d => Q d s) X) X) X := by
  unfold wE wO
  rw [evE, bind_w]
  refine Rw_ext fun x s => ?_
  split
  · rfl
  · rw [bind_w]
    refine Rw_ext fun l s => ?_
    rw [bind_w]
    exact Rw_ext fun z s => of_w _ _ _ _
theorem wE_fld {f : Nat} : wE T F (.fld a f) s Q X = wE T F a s (fun x s => oW (objOf s x) fun p => oW (p.2.lookup f) fun d => (fldR f s x d).w Q X) X := by
  unfold wE
  rw [evE, bind_w]
  refine Rw_ext fun x s => ?_
  cases objOf s x with
  | none => rfl
  | some p =>
    obtain ⟨k, fs⟩ := p
    show R.w (match fs.lookup f with | some d => fldR f s x d | none => .stuck) Q X = oW (fs.lookup f) _
    cases fs.lookup f <;> rfl
theorem callR_w {ini : Bool} {f : Nat} {ds : List D} : (callR F ini f ds s).w Q X = (F ini f ds s.sto).w (fun d r => Q d { s with sto := r.sto }) (fun c fs r => X c fs { s with sto := r.sto }) := by
  unfold callR
  cases F ini f ds s.sto <;> rfl
theorem wE_call {f : Nat} : wE T F (.call f a) s Q X = if (T.fn f).isSome then wA T F a s (fun ds s => (F false f ds s.sto).w (fun d r => Q d { s with sto := r.sto }) (fun c fs r => X c fs { s with sto := r.sto })) X else False := by
  unfold wE wA
  rw [evE]
  split
  · rw [bind_w]
    exact Rw_ext fun z s => callR_w
  · rfl
theorem wE_mth {m : Nat} : wE T F (.mth o m a) s Q X = wE T F o s (fun x s => if recvOk x then (oW (asObj s x) fun p => oW (T.mth p.1 m) fun f => wA T F a s (fun ds s => (F false f (x :: ds) s.sto).w (fun d r => Q d { s with sto := r.sto }) (fun c fs r => X c fs { s with sto := r.sto })) X) else False) X := by
  unfold wE wA
  rw [evE, bind_w]
  refine Rw_ext fun x s => ?_
  split
  · cases asObj s x with
    | none => rfl
    | some p =>
      obtain ⟨k, fs⟩ := p
      show R.w (match T.mth k m with | some f => _ | none => .stuck) Q X = oW (T.mth k m) _
      cases T.mth k m with
      | none => rfl
      | some f =>
        show R.w (R.bind _ _) Q X = _
        rw [bind_w]
        exact Rw_ext fun z s => callR_w
  · rfl
theorem wE_mk {k : Nat} : wE T F (.mk k a) s Q X = oW (T.ini k) fun o => match o with
    | some f => wA T F a s (fun ds s => (F true f (.oobj k [] :: ds) s.sto).w (fun d r => Q d { s with sto := r.sto }) (fun c fs r => X c fs { s with sto := r.sto })) X
    | none => if isNil a then Q (.oobj k []) s else False := by
  unfold wE wA
  rw [evE]
  cases T.ini k with
  | none => rfl
  | some o =>
    cases o with
    | some f =>
      show R.w (R.bind _ _) Q X = _
      rw [bind_w]
      exact Rw_ext fun z s => callR_w
    | none =>
      show R.w (if isNil a = true then _ else _) Q X = if isNil a = true then _ else _
      split <;> rfl
theorem wE_mkc {k : Nat} : wE T F (.mkc k a) s Q X = oW (T.ini k) fun o => match o with
    | some f => wA T F a s (fun ds s => (F false f (.loc s.sto.length :: ds) (s.sto ++ [.oobj k []])).w (fun d r => match d with
      | .non => Q (.loc s.sto.length) { s with sto := r.sto }
      | _ => False) (fun c fs r => X c fs { s with sto := r.sto })) X
    | none => False := by
  unfold wE wA
  rw [evE]
  cases T.ini k with
  | none => rfl
  | some o =>
    cases o with
    | some f =>
      show R.w (R.bind _ _) Q X = _
      rw [bind_w]
      show R.w _ _ _ = R.w _ _ _
      refine Rw_ext fun ds s => ?_
      rw [bind_w, callR_w]
      refine Rw_ext fun d r => ?_
      cases d <;> rfl
    | none => rfl
theorem wE_bi {b : Bi} : wE T F (.bi b a) s Q X = wB T F a s (fun ds s => oW (biD b s ds) fun d => Q d s) X := by
  unfold wE wB
  rw [evE, bind_w]
  exact Rw_ext fun z s => of_w _ _ _ _
theorem wE_bm {b : Bm} : wE T F (.bm b o a) s Q X = wE T F o s (fun x s => if (isF x && !a.calm T) || !rk b s x then False else wB T F a s (fun ds s => (bmD b s x ds).w Q X) X) X := by
  unfold wE wB
  rw [evE, bind_w]
  refine Rw_ext fun x s => ?_
  split
  · rfl
  · rw [bind_w]
theorem wE_isi {cs : List Ic} : wE T F (.isi a cs) s Q X = wE T F a s (fun x s => oW (anyIc T s x cs) fun b => Q (.bl b) s) X := by
  unfold wE
  rw [evE, bind_w]
  exact Rw_ext fun z s => by rw [of_w, oWmap]
theorem wA_nil {Q : List D → St → Prop} : wA T F .nil s Q X = Q [] s := by unfold wA; rw [evA]; rfl
theorem wA_cons {Q : List D → St → Prop} : wA T F (.cons a b) s Q X = wE T F a s (fun x s => (esc s x).w (fun x s => wA T F b s (fun xs s => Q (x :: xs) s) X) X) X := by
  unfold wA wE
  rw [evA, bind_w]
  refine Rw_ext fun x s => ?_
  rw [bind_w]
  refine Rw_ext fun x s => ?_
  rw [bind_w]
  rfl
theorem wB_nil {Q : List D → St → Prop} : wB T F .nil s Q X = Q [] s := by unfold wB; rw [evB]; rfl
theorem wB_cons {Q : List D → St → Prop} : wB T F (.cons a b) s Q X = wE T F a s (fun x s => hF T x b (wB T F b s (fun xs s => Q (x :: xs) s) X)) X := by
  unfold wB wE
  rw [evB, bind_w]
  refine Rw_ext fun x s => ?_
  rw [held_w, bind_w]
  rfl
theorem wE_lc {elt a cond : E} {tg : Tg} {ow : List Nat} {k : Sk} : wE T F (.lc elt tg ow k a cond) s Q X = wB T F a s (fun ds s => oW (srcD k s ds) fun items => oW (hide s (nms ds)) fun p => if noOwn p.1.env ow then
    (match lcL (fun d s => bindT tg d { s with env := wipe s.env ow }) (condB cond (evE T F cond)) (evE T F elt) items [] { p.1 with env := wipe p.1.env ow } with
      | .ok acc s2 => oW (unhide { s2 with env := restore p.1.env s2.env ow } p.2) fun s3 => Q (.olst acc) s3
      | _ => False) else False) X := by
  unfold wE wB
  rw [evE, bind_w]
  refine Rw_ext fun ds s => ?_
  cases srcD k s ds with
  | none => rfl
  | some items =>
    cases hide s (nms ds) with
    | none => rfl
    | some p =>
      obtain ⟨s1, ps⟩ := p
      show R.w (if noOwn s1.env ow = true then _ else _) Q X = if noOwn s1.env ow = true then _ else _
      split
      · cases lcL (fun d s => bindT tg d { s with env := wipe s.env ow }) (condB cond (evE T F cond)) (evE T F elt) items [] { s1 with env := wipe s1.env ow } with
        | ok acc s2 =>
          show R.w (match unhide { s2 with env := restore s1.env s2.env ow } ps with | some s3 => _ | none => _) Q X = oW (unhide { s2 with env := restore s1.env s2.env ow } ps) _
          cases unhide { s2 with env := restore s1.env s2.env ow } ps <;> rfl
        | exc k fs s2 => rfl
        | stuck => rfl
      · rfl
/-! ### statements -/
variable {N : St → Prop} {P : Ps} {x y : S}
theorem wS_skip : wS T F .skip s N P = N s := by unfold wS; rw [evS]; rfl
theorem wS_seq : wS T F (.seq x y) s N P = wS T F x s (fun s => wS T F y s N P) P := by unfold wS; rw [evS, then_w]
theorem wS_asg {i : Nat} : wS T F (.asg i a) s N P = wE T F a s (fun d s => (asgD s i d).w N P) P.exc := by unfold wS wE; rw [evS, fl_w]
theorem wS_asgT {is : List Nat} : wS T F (.asgT is a) s N P = wE T F a s (fun d s => oW (bindT (.many is) d s) N) P.exc := by
  unfold wS wE
  rw [evS, fl_w]
  refine Rw_ext fun d s => ?_
  cases bindT (.many is) d s <;> rfl
theorem wS_setIx : wS T F (.setIx a i b) s N P = wE T F b s (fun d s => (esc s d).w (fun d s => wE T F a s (fun x s => hF T x i (wE T F i s (fun y s => (setIxD s x y d).w N P) P.exc)) P.exc) P.exc) P.exc := by
  unfold wS wE
  rw [evS, fl_w]
  refine Rw_ext fun d s => ?_
  rw [fl_w]
  refine Rw_ext fun d s => ?_
  rw [fl_w]
  refine Rw_ext fun x s => ?_
  unfold hF
  split
  · rfl
  · rw [fl_w]
theorem wS_setFld {f : Nat} : wS T F (.setFld a f b) s N P = wE T F b s (fun d s => wE T F a s (fun x s => (setFldD s x f d).w N P) P.exc) P.exc := by
  unfold wS wE
  rw [evS, fl_w]
  refine Rw_ext fun d s => ?_
  rw [fl_w]
theorem wS_expr : wS T F (.expr a) s N P = wE T F a s (fun _ s => N s) P.exc := by unfold wS wE; rw [evS, fl_w]; rfl
theorem wS_ret : wS T F (.ret a) s N P = wE T F a s (fun d s => (retD s d).w N P) P.exc := by unfold wS wE; rw [evS, fl_w]
theorem wS_ifs : wS T F (.ifs t x y) s N P = wE T F t s (fun d s => bW d fun c => if c then wS T F x s N P else wS T F y s N P) P.exc := by
  unfold wS wE
  rw [evS, fl_w, asB_w']
  refine Rw_ext fun d s => ?_
  refine bW_ext fun c => ?_
  cases c <;> rfl
theorem wS_brk : wS T F .brk s N P = P.brk s := by unfold wS; rw [evS]; rfl
theorem wS_cnt : wS T F .cnt s N P = P.cnt s := by unfold wS; rw [evS]; rfl
theorem wS_raise {k : Nat} : wS T F (.raise k a) s N P = wA T F a s (fun ds s => oW (T.exn k) fun ns => if ns = [] ∨ ns.length = ds.length then P.exc k (ns.zip ds) s else False) P.exc := by
  unfold wS wA
  rw [evS, fl_w]
  refine Rw_ext fun ds s => ?_
  cases T.exn k with
  | none => rfl
  | some ns =>
    show Fl.w (if _ then _ else _) N P = if _ then _ else _
    split <;> rfl
theorem wS_fors {tg : Tg} {k : Sk} : wS T F (.fors tg k a x) s N P = wB T F a s (fun ds s => oW (srcD k s ds) fun items => oW (hide s (nms ds)) fun p => (Fl.show p.2 (forL (bindT tg) (evS T F x) items p.1)).w N P) P.exc := by
  unfold wS wB
  rw [evS, fl_w]
  refine Rw_ext fun ds s => ?_
  cases srcD k s ds with
  | none => rfl
  | some items =>
    cases hide s (nms ds) with
    | none => rfl
    | some p =>
      obtain ⟨s1, ps⟩ := p
      rfl
theorem wS_whl : wS T F (.whl t x) s N P = (whlL (fun s => asB (evE T F t s)) (evS T F x) most s).w N P := by unfold wS; rw [evS]
end
end TR
end

section
set_option Elab.async false
set_option linter.all false
set_option maxRecDepth 100000
set_option autoImplicit false
/-! TrEv: loops, calls and operations as rules (plain Lean). -/
namespace TR
theorem drop_step {α : Type} {items : List α} {k : Nat} {d : α} {ds : List α} (h : items.drop k = d :: ds) : items[k]? = some d ∧ items.drop (k + 1) = ds := by
  refine ⟨?_, ?_⟩
  · have := congrArg (fun l => l[0]?) h
    simpa using this
  · have := congrArg List.tail h
    simpa [List.tail_drop] using this
section
variable {T : Tb} {F : Fi} {s : St}
/-! ### loops -/
theorem forL_w {bind : D → St → Option St} {body : St → Fl} {N : St → Prop} {P : Ps} (items : List D) (I : Nat → St → Prop) (hend : ∀ s, I items.length s → N s)
    (step : ∀ i d s, items[i]? = some d → I i s → oW (bind d s) fun s => (body s).w (I (i + 1)) ⟨N, I (i + 1), P.ret, P.exc⟩) {s : St} (h0 : I 0 s) : (forL bind body items s).w N P := by
  have key : ∀ (rest : List D) (k : Nat) (s : St), items.drop k = rest → k + rest.length = items.length → I k s → (forL bind body rest s).w N P := by
    intro rest
    induction rest with
    | nil =>
      intro k s hk hl hi
      have hl : k = items.length := hl
      subst hl
      exact hend s hi
    | cons d ds ih =>
      intro k s hk hl hi
      obtain ⟨hd, hr⟩ := drop_step hk
      have hl : k + 1 + ds.length = items.length := by
        rw [← hl, List.length_cons]
        omega
      have st := step k d s hd hi
      unfold forL
      cases e : bind d s with
      | none =>
        rw [e] at st
        exact st.elim
      | some s1 =>
        rw [e] at st
        have st : (body s1).w (I (k + 1)) ⟨N, I (k + 1), P.ret, P.exc⟩ := st
        show Fl.w (match body s1 with | .nx s => _ | .cnt s => _ | .brk s => _ | r => r) N P
        cases q : body s1 with
        | nx s2 => rw [q] at st; exact ih (k + 1) s2 hr hl st
        | cnt s2 => rw [q] at st; exact ih (k + 1) s2 hr hl st
        | brk s2 => rw [q] at st; exact st
        | ret d2 s2 => rw [q] at st; exact st
        | exc c fs s2 => rw [q] at st; exact st
        | stuck => rw [q] at st; exact st
  exact key items 0 s rfl (by omega) h0
theorem show_none (r : Fl) : Fl.show none r = r := by cases r <;> rfl
theorem show_w (ps : Option (Nm × D)) (r : Fl) (N : St → Prop) (P : Ps) : (Fl.show ps r).w N P = r.w (fun s => oW (unhide s ps) N) ⟨fun s => oW (unhide s ps) P.brk, fun s => oW (unhide s ps) P.cnt, fun d s => oW (unhide s ps) (P.ret d), fun c fs s => oW (unhide s ps) (P.exc c fs)⟩ := by
  cases r with
  | nx s => show Fl.w (match unhide s ps with | some s => _ | none => _) N P = oW (unhide s ps) _; cases unhide s ps <;> rfl
  | brk s => show Fl.w (match unhide s ps with | some s => _ | none => _) N P = oW (unhide s ps) _; cases unhide s ps <;> rfl
  | cnt s => show Fl.w (match unhide s ps with | some s => _ | none => _) N P = oW (unhide s ps) _; cases unhide s ps <;> rfl
  | ret d s => show Fl.w (match unhide s ps with | some s => _ | none => _) N P = oW (unhide s ps) _; cases unhide s ps <;> rfl
  | exc c fs s => show Fl.w (match unhide s ps with | some s => _ | none => _) N P = oW (unhide s ps) _; cases unhide s ps <;> rfl
  | stuck => rfl
/-- a while: I n s says that at most n turns are left -/
theorem whlL_w {test : St → R Bool} {body : St → Fl} {N : St → Prop} {P : Ps} (I : Nat → St → Prop)
    (step : ∀ n s, I n s → (test s).w (fun b s => if b then (0 < n ∧ (body s).w (I (n - 1)) ⟨N, I (n - 1), P.ret, P.exc⟩) else N s) P.exc) : ∀ {n m : Nat} {s : St}, I n s → n < m → (whlL test body m s).w N P
  | n, 0, s, _, h => absurd h (Nat.not_lt_zero _)
  | n, m + 1, s, hi, h => by
    have st := step n s hi
    unfold whlL
    rw [fl_w]
    cases e : test s with
    | stuck =>
      rw [e] at st
      exact st
    | exc c fs s1 =>
      rw [e] at st
      exact st
    | ok b s1 =>
      rw [e] at st
      have st : if b then (0 < n ∧ (body s1).w (I (n - 1)) ⟨N, I (n - 1), P.ret, P.exc⟩) else N s1 := st
      cases b with
      | false => exact st
      | true =>
        obtain ⟨hn, st⟩ := st
        have ih := fun s2 (h2 : I (n - 1) s2) => whlL_w I step (n := n - 1) (m := m) h2 (by omega)
        show Fl.w (match body s1 with | .nx s => _ | .cnt s => _ | .brk s => _ | r => r) N P
        cases q : body s1 with
        | nx s2 => rw [q] at st; exact ih s2 st
        | cnt s2 => rw [q] at st; exact ih s2 st
        | brk s2 => rw [q] at st; exact st
        | ret d2 s2 => rw [q] at st; exact st
        | exc c fs s2 => rw [q] at st; exact st
        | stuck => rw [q] at st; exact st
/-- a comprehension -/
theorem lcL_w {bind : D → St → Option St} {cond : St → R Bool} {elt : St → R D} {Z : Prop} {K : R (List D) → Prop} (items : List D) (I : Nat → List D → St → Prop) (hend : ∀ acc s, I items.length acc s → K (.ok acc s))
    (step : ∀ i d acc s, items[i]? = some d → I i acc s → oW (bind d s) fun s => (cond s).w (fun b s => if b then (elt s).w (fun x s => (esc s x).w (fun x s => acc.length < lim ∧ I (i + 1) (acc ++ [x]) s) fun _ _ _ => False) (fun _ _ _ => False) else I (i + 1) acc s) fun _ _ _ => False) {s : St} (h0 : I 0 [] s) :
    K (lcL bind cond elt items [] s) := by
  have key : ∀ (rest : List D) (k : Nat) (acc : List D) (s : St), items.drop k = rest → k + rest.length = items.length → I k acc s → K (lcL bind cond elt rest acc s) := by
    intro rest
    induction rest with
    | nil =>
      intro k acc s hk hl hi
      have hl : k = items.length := hl
      subst hl
      exact hend acc s hi
    | cons d ds ih =>
      intro k acc s hk hl hi
      obtain ⟨hd, hr⟩ := drop_step hk
      have hl : k + 1 + ds.length = items.length := by
        rw [← hl, List.length_cons]
        omega
      have st := step k d acc s hd hi
      unfold lcL
      cases e : bind d s with
      | none =>
        rw [e] at st
        exact st.elim
      | some s1 =>
        rw [e] at st
        have st : (cond s1).w (fun b s => if b then (elt s).w (fun x s => (esc s x).w (fun x s => acc.length < lim ∧ I (k + 1) (acc ++ [x]) s) fun _ _ _ => False) (fun _ _ _ => False) else I (k + 1) acc s) (fun _ _ _ => False) := st
        dsimp only
        cases q : cond s1 with
        | stuck => rw [q] at st; exact st.elim
        | exc c fs s2 => rw [q] at st; exact st.elim
        | ok b s2 =>
          rw [q] at st
          cases b with
          | false => exact ih (k + 1) acc s2 hr hl st
          | true =>
            have st : (elt s2).w (fun x s => (esc s x).w (fun x s => acc.length < lim ∧ I (k + 1) (acc ++ [x]) s) fun _ _ _ => False) (fun _ _ _ => False) := st
            dsimp only
            cases q2 : elt s2 with
            | stuck => rw [q2] at st; exact st.elim
            | exc c fs s2 => rw [q2] at st; exact st.elim
            | ok x s3 =>
              rw [q2] at st
              have st : (esc s3 x).w (fun x s => acc.length < lim ∧ I (k + 1) (acc ++ [x]) s) (fun _ _ _ => False) := st
              dsimp only
              cases q3 : esc s3 x with
              | stuck => rw [q3] at st; exact st.elim
              | exc c fs s2 => rw [q3] at st; exact st.elim
              | ok y s4 =>
                rw [q3] at st
                obtain ⟨h1, h2⟩ := st
                dsimp only
                rw [if_pos h1]
                exact ih (k + 1) _ s4 hr hl h2
  exact key items 0 [] s rfl (by omega) h0
/-! ### calls -/
theorem fn_eq {k f : Nat} {fd : Fn} {ds sto : List D} {r : R D} (h : T.fn f = some fd) (hl : ds.length = fd.np) (hg : fd.gc = false)
    (w : wS T (evFn T k) fd.body ⟨ds.map some ++ List.replicate (fd.nl - fd.np) none, sto⟩ (fun s => r = .ok .non ⟨[], s.sto⟩) ⟨fun _ => False, fun _ => False, fun d s => r = .ok d ⟨[], s.sto⟩, fun c fs s => r = .exc c fs ⟨[], s.sto⟩⟩) : evFn T (k + 1) false f ds sto = r := by
  show (match T.fn f with
    | none => R.stuck
    | some fd => if ds.length = fd.np then fin fd.gc false sto (evS T (evFn T k) fd.body ⟨ds.map some ++ List.replicate (fd.nl - fd.np) none, seen (false || fd.gc) sto⟩) else .stuck) = r
  rw [h]
  dsimp only
  rw [if_pos hl, hg]
  unfold wS at w
  show fin false false sto (evS T (evFn T k) fd.body ⟨ds.map some ++ List.replicate (fd.nl - fd.np) none, sto⟩) = r
  cases e : evS T (evFn T k) fd.body ⟨ds.map some ++ List.replicate (fd.nl - fd.np) none, sto⟩ with
  | nx s => rw [e] at w; exact w.symm
  | brk s => rw [e] at w; exact w.elim
  | cnt s => rw [e] at w; exact w.elim
  | ret d s => rw [e] at w; exact w.symm
  | exc c fs s => rw [e] at w; exact w.symm
  | stuck => rw [e] at w; exact w.elim
theorem fn_ex {k f : Nat} {fd : Fn} {ds sto : List D} {Q : D → List D → Prop} (h : T.fn f = some fd) (hl : ds.length = fd.np) (hg : fd.gc = false)
    (w : wS T (evFn T k) fd.body ⟨ds.map some ++ List.replicate (fd.nl - fd.np) none, sto⟩ (fun s => Q .non s.sto) ⟨fun _ => False, fun _ => False, fun d s => Q d s.sto, fun _ _ _ => False⟩) : ∃ d sto', evFn T (k + 1) false f ds sto = .ok d ⟨[], sto'⟩ ∧ Q d sto' := by
  unfold wS at w
  have g : ∀ r, evFn T (k + 1) false f ds sto = r ↔ fin false false sto (evS T (evFn T k) fd.body ⟨ds.map some ++ List.replicate (fd.nl - fd.np) none, sto⟩) = r := fun r => by
    show (match T.fn f with
      | none => R.stuck
      | some fd => if ds.length = fd.np then fin fd.gc false sto (evS T (evFn T k) fd.body ⟨ds.map some ++ List.replicate (fd.nl - fd.np) none, seen (false || fd.gc) sto⟩) else .stuck) = r ↔ _
    rw [h]
    dsimp only
    rw [if_pos hl, hg]
    exact Iff.rfl
  cases e : evS T (evFn T k) fd.body ⟨ds.map some ++ List.replicate (fd.nl - fd.np) none, sto⟩ with
  | nx s => rw [e] at w; exact ⟨_, _, (g _).mpr (by rw [e]; rfl), w⟩
  | brk s => rw [e] at w; exact w.elim
  | cnt s => rw [e] at w; exact w.elim
  | ret d s => rw [e] at w; exact ⟨_, _, (g _).mpr (by rw [e]; rfl), w⟩
  | exc c fs s => rw [e] at w; exact w.elim
  | stuck => rw [e] at w; exact w.elim
/-! ### names of things -/
theorem own_slot_eq (s : St) (i : Nat) : own s (.slot i) = ((s.env[i]?).join).filter owned := (rfl)
theorem vW_some (d : D) (i : Nat) (Q : D → Prop) : vW (some (some d)) i Q = if owned d then (match d with | .hid => False | _ => Q (.sref i)) else Q d := (rfl)
theorem vW_olst (ds : List D) (i : Nat) (Q : D → Prop) : vW (some (some (.olst ds))) i Q = Q (.sref i) := (rfl)
theorem vW_odct (ds : List (Tx × D)) (i : Nat) (Q : D → Prop) : vW (some (some (.odct ds))) i Q = Q (.sref i) := (rfl)
theorem vW_oobj (k : Nat) (ds : List (Nat × D)) (i : Nat) (Q : D → Prop) : vW (some (some (.oobj k ds))) i Q = Q (.sref i) := (rfl)
theorem vW_non (i : Nat) (Q : D → Prop) : vW (some (some .non)) i Q = Q .non := (rfl)
theorem vW_bl (b : Bool) (i : Nat) (Q : D → Prop) : vW (some (some (.bl b))) i Q = Q (.bl b) := (rfl)
theorem vW_int (b : Int) (i : Nat) (Q : D → Prop) : vW (some (some (.int b))) i Q = Q (.int b) := (rfl)
theorem vW_str (b : Tx) (i : Nat) (Q : D → Prop) : vW (some (some (.str b))) i Q = Q (.str b) := (rfl)
theorem vW_tup (b : List D) (i : Nat) (Q : D → Prop) : vW (some (some (.tup b))) i Q = Q (.tup b) := (rfl)
theorem vW_lst (b : List D) (i : Nat) (Q : D → Prop) : vW (some (some (.lst b))) i Q = Q (.lst b) := (rfl)
theorem vW_dct (b : List (Tx × D)) (i : Nat) (Q : D → Prop) : vW (some (some (.dct b))) i Q = Q (.dct b) := (rfl)
theorem vW_obj (k : Nat) (b : List (Nat × D)) (i : Nat) (Q : D → Prop) : vW (some (some (.obj k b))) i Q = Q (.obj k b) := (rfl)
theorem vW_loc (b : Nat) (i : Nat) (Q : D → Prop) : vW (some (some (.loc b))) i Q = Q (.loc b) := (rfl)
theorem vW_scr (b : List Int) (i : Nat) (Q : D → Prop) : vW (some (some (.scr b))) i Q = Q (.scr b) := (rfl)
theorem vW_exc (k : Nat) (b : List (Nat × D)) (i : Nat) (Q : D → Prop) : vW (some (some (.exc k b))) i Q = Q (.exc k b) := (rfl)
/-! ### operations -/
theorem bin_addI (i j : Int) : binD .add s (.int i) (.int j) = some (.int (i + j)) := (rfl)
theorem bin_subI (i j : Int) : binD .sub s (.int i) (.int j) = some (.int (i - j)) := (rfl)
theorem bin_mulI (i j : Int) : binD .mul s (.int i) (.int j) = if (-18446744073709551616 < i ∧ i < 18446744073709551616) ∨ (-18446744073709551616 < j ∧ j < 18446744073709551616) then some (.int (i * j)) else none := (rfl)
theorem bin_fdivI (i j : Int) : binD .fdiv s (.int i) (.int j) = if 0 < j ∧ j < 1073741824 then some (.int (i / j)) else none := (rfl)
theorem bin_modI (i j : Int) : binD .mod s (.int i) (.int j) = if 0 < j then some (.int (i % j)) else none := (rfl)
theorem bin_powI (i j : Int) : binD .pow s (.int i) (.int j) = if 0 ≤ j ∧ j ≤ 1000 ∧ -1000 ≤ i ∧ i ≤ 1000 then some (.int (i ^ j.toNat)) else none := (rfl)
theorem bin_shrI (i j : Int) : binD .shr s (.int i) (.int j) = if 0 ≤ j then some (.int (i / 2 ^ j.toNat)) else none := (rfl)
theorem bin_addS (x y : Tx) : binD .add s (.str x) (.str y) = if x.length + y.length ≤ lim then some (.str (x ++ y)) else none := (rfl)
theorem bin_addT (x y : List D) : binD .add s (.tup x) (.tup y) = if x.length + y.length ≤ lim ∧ x ≠ [] ∧ y ≠ [] then some (.tup (x ++ y)) else none := (rfl)
def isLs : D → Bool
  | .lst _ => true | .olst _ => true | .sref _ => true | .fref _ _ => true | .loc _ => true | _ => false
theorem bin_addL {a b : D} (h : isLs a = true) : binD .add s a b = match asLst s a, asLst s b with
    | some xs, some ys => if xs.length + ys.length ≤ lim then some (.olst (xs ++ ys)) else none
    | _, _ => none := by
  cases a <;> first | (cases h; done) | rfl
theorem bin_mulL {a : D} {k : Int} (h : isLs a = true) : binD .mul s a (.int k) = match asLst s a with
    | some xs => if 0 ≤ k ∧ k ≤ 100000 ∧ xs.length * k.toNat ≤ lim then some (.olst (List.replicate k.toNat xs).flatten) else none
    | none => none := by
  cases a <;> first | (cases h; done) | rfl
end
end TR
end

section
set_option Elab.async false
set_option linter.all false
set_option maxRecDepth 100000
set_option autoImplicit false
/-! TrEvL: the evaluator's functions at each kind of value (printed by evl.py). -/
namespace TR
def ownO (o : Option (Option D)) : Option D := o.join.filter owned
def ownC (o : Option D) : Option D := o.filter owned
def ownF (o : Option D) (f : Nat) : Option D := (fldO o f).filter owned
def escO (o : Option D) (i : Nat) (s : St) : R D := match o with
  | some c => (match frz c with
    | some d' => .ok d' { s with env := s.env.set i (some d') }
    | none => .stuck)
  | none => .stuck
def retO (o : Option D) (i : Nat) (s : St) : Fl := match o with
  | some .hid => .stuck
  | some c => .ret c { s with env := s.env.set i none }
  | none => .stuck
def lstO (o : Option D) : Option (List D) := match o with
  | some (.lst ds) => some ds
  | some (.olst ds) => some ds
  | _ => none
def dctO (o : Option D) : Option (List (Tx × D)) := match o with
  | some (.dct ds) => some ds
  | some (.odct ds) => some ds
  | _ => none
def objO (o : Option D) : Option (Nat × List (Nat × D)) := match o with
  | some (.obj c fs) => some (c, fs)
  | some (.oobj c fs) => some (c, fs)
  | _ => none
def seqO (o : Option D) : Option (List D) := match o with
  | some (.lst ds) => some ds
  | some (.olst ds) => some ds
  | some (.tup ds) => some ds
  | _ => none
def ixO (o : Option D) (i : Int) : Option D := match o with
  | some (.lst ds) => atI ds i
  | some (.olst ds) => atI ds i
  | some (.tup ds) => atI ds i
  | some (.str z) => (atI z i).map fun n => .str [n]
  | some (.scr ns) => (atI ns i).map .int
  | _ => none
def ixK (o : Option D) (k : Tx) : Option D := match o with
  | some (.dct kvs) => kvs.lookup k
  | some (.odct kvs) => kvs.lookup k
  | _ => none
def lenO (o : Option D) : Option D := match o with
  | some (.lst ds) => some (.int ds.length)
  | some (.olst ds) => some (.int ds.length)
  | some (.tup ds) => some (.int ds.length)
  | some (.str z) => some (.int z.length)
  | some (.scr ns) => some (.int ns.length)
  | _ => none
def bListO (o : Option D) : Option D := match o with
  | some (.lst ds) => some (.olst ds)
  | some (.olst ds) => some (.olst ds)
  | some (.tup ds) => some (.olst ds)
  | some (.str z) => some (.olst (z.map fun n => .str [n]))
  | _ => none
def slO (o : Option D) (lo hi : Option Int) : Option D := match o with
  | some (.lst ds) => some (.olst (cut ds lo hi))
  | some (.olst ds) => some (.olst (cut ds lo hi))
  | some (.str z) => some (.str (cut z lo hi))
  | some (.tup ds) => some (.tup (cut ds lo hi))
  | _ => none
def itO (o : Option D) : Option (List D) := match o with
  | some (.lst ds) => some ds
  | some (.olst ds) => some ds
  | some (.tup ds) => some ds
  | some (.str z) => some (z.map fun n => .str [n])
  | some (.scr ns) => some (ns.map .int)
  | _ => none
def dataO (o : Option D) : Option D := match o with
  | some (.olst ds) => some (.lst ds)
  | some d => some d
  | none => none
def isListO (o : Option D) : Option Bool := match o with | some (.lst _) => some true | some (.olst _) => some true | some (.tup _) => some false | some (.int _) => some false | some .non => some false | some (.str _) => some false | _ => none
def isTupO (o : Option D) : Option Bool := match o with | some (.tup _) => some true | some (.lst _) => some false | some (.olst _) => some false | some .non => some false | some (.int _) => some false | some (.str _) => some false | _ => none
def appO (s : St) (nm : Nm) (o : Option D) (d : D) : R D := match o with
  | some (.olst xs) => if xs.length < lim then .ok .non (putAt s nm (.olst (xs ++ [d]))) else .stuck
  | _ => .stuck
def extO (s : St) (nm : Nm) (o : Option D) (ys : Option (List D)) : R D := match ys, o with
  | some ys, some (.olst xs) => if xs.length + ys.length ≤ lim then .ok .non (putAt s nm (.olst (xs ++ ys))) else .stuck
  | _, _ => .stuck
def popO (s : St) (nm : Nm) (o : Option D) : R D := match o with
  | some (.olst xs) => (match xs.getLast? with
    | some d => .ok d (putAt s nm (.olst xs.dropLast))
    | none => .stuck)
  | _ => .stuck
def insO (s : St) (nm : Nm) (o : Option D) (i : Int) (d : D) : R D := match o with
  | some (.olst xs) => if xs.length < lim ∧ 0 ≤ i ∧ i ≤ xs.length then .ok .non (putAt s nm (.olst (xs.take i.toNat ++ d :: xs.drop i.toNat))) else .stuck
  | _ => .stuck
def nmW {α : Type} (o : Option Nm) (z : α) (k : Nm → α) : α := match o with
  | some nm => k nm
  | none => z
def addLO (o p : Option (List D)) : Option D := match o, p with
  | some xs, some ys => if xs.length + ys.length ≤ lim then some (.olst (xs ++ ys)) else none
  | _, _ => none
def mulLO (o : Option (List D)) (k : Int) : Option D := match o with
  | some xs => if 0 ≤ k ∧ k ≤ 100000 ∧ xs.length * k.toNat ≤ lim then some (.olst (List.replicate k.toNat xs).flatten) else none
  | none => none
def clrO (s : St) (nm : Nm) (o : Option D) : R D := match o with
  | some (.olst _) => .ok .non (putAt s nm (.olst []))
  | _ => .stuck
def stIO (s : St) (nm : Nm) (o : Option D) (k : Int) (d : D) : Fl := match o with
  | some (.olst xs) => (match ixN xs.length k with
      | some j => .nx (putAt s nm (.olst (xs.set j d)))
      | none => .stuck)
  | _ => .stuck
def stKO (s : St) (nm : Nm) (o : Option D) (k : Tx) (d : D) : Fl := match o with
  | some (.odct kvs) => if kvs.length < lim then .nx (putAt s nm (.odct (dput k d kvs))) else .stuck
  | _ => .stuck
def stFO (s : St) (nm : Nm) (o : Option D) (f : Nat) (d : D) : Fl := match o with
  | some (.oobj c fs) => if fs.length < 100 then .nx (putAt s nm (.oobj c (fput f d fs))) else .stuck
  | _ => .stuck
section
variable {s : St} {T : Tb} {P : Prop} {b e : E} {x : D}
theorem oW_ite {α : Type} {c : Prop} [Decidable c] {x : α} {Q : α → Prop} : oW (if c then some x else none) Q = (c ∧ Q x) := by
  split
  · rename_i h
    exact propext ⟨fun q => ⟨h, q⟩, fun q => q.2⟩
  · rename_i h
    exact propext ⟨fun q => q.elim, fun q => h q.1⟩
theorem Rw_ite {α : Type} {c : Prop} [Decidable c] {x : α} {s : St} {Q : α → St → Prop} {X : XP} : (if c then R.ok x s else .stuck).w Q X = (c ∧ Q x s) := by
  split
  · rename_i h
    exact propext ⟨fun q => ⟨h, q⟩, fun q => q.2⟩
  · rename_i h
    exact propext ⟨fun q => q.elim, fun q => h q.1⟩
theorem Fw_ite {c : Prop} [Decidable c] {s : St} {N : St → Prop} {P : Ps} : (if c then Fl.nx s else .stuck).w N P = (c ∧ N s) := by
  split
  · rename_i h
    exact propext ⟨fun q => ⟨h, q⟩, fun q => q.2⟩
  · rename_i h
    exact propext ⟨fun q => q.elim, fun q => h q.1⟩

theorem isF_non : isF (.non) = false := (rfl)
theorem isF_bl {b : Bool} : isF (.bl b) = false := (rfl)
theorem isF_int {b : Int} : isF (.int b) = false := (rfl)
theorem isF_str {z : Tx} : isF (.str z) = false := (rfl)
theorem isF_tup {ds : List D} : isF (.tup ds) = false := (rfl)
theorem isF_lst {ds : List D} : isF (.lst ds) = false := (rfl)
theorem isF_dct {ks : List (Tx × D)} : isF (.dct ks) = false := (rfl)
theorem isF_obj {k : Nat} {fs : List (Nat × D)} : isF (.obj k fs) = false := (rfl)
theorem isF_olst {ds : List D} : isF (.olst ds) = false := (rfl)
theorem isF_odct {ks : List (Tx × D)} : isF (.odct ks) = false := (rfl)
theorem isF_oobj {k : Nat} {fs : List (Nat × D)} : isF (.oobj k fs) = false := (rfl)
theorem isF_loc {n : Nat} : isF (.loc n) = false := (rfl)
theorem isF_sref {i : Nat} : isF (.sref i) = false := (rfl)
theorem isF_fref {n : Nat} {f : Nat} : isF (.fref n f) = true := (rfl)
theorem isF_hid : isF (.hid) = false := (rfl)
theorem isF_dead : isF (.dead) = false := (rfl)
theorem isF_scr {ns : List Int} : isF (.scr ns) = false := (rfl)
theorem isF_exc {k : Nat} {fs : List (Nat × D)} : isF (.exc k fs) = false := (rfl)
theorem owned_non : owned (.non) = false := (rfl)
theorem owned_bl {b : Bool} : owned (.bl b) = false := (rfl)
theorem owned_int {b : Int} : owned (.int b) = false := (rfl)
theorem owned_str {z : Tx} : owned (.str z) = false := (rfl)
theorem owned_tup {ds : List D} : owned (.tup ds) = false := (rfl)
theorem owned_lst {ds : List D} : owned (.lst ds) = false := (rfl)
theorem owned_dct {ks : List (Tx × D)} : owned (.dct ks) = false := (rfl)
theorem owned_obj {k : Nat} {fs : List (Nat × D)} : owned (.obj k fs) = false := (rfl)
theorem owned_olst {ds : List D} : owned (.olst ds) = true := (rfl)
theorem owned_odct {ks : List (Tx × D)} : owned (.odct ks) = true := (rfl)
theorem owned_oobj {k : Nat} {fs : List (Nat × D)} : owned (.oobj k fs) = true := (rfl)
theorem owned_loc {n : Nat} : owned (.loc n) = false := (rfl)
theorem owned_sref {i : Nat} : owned (.sref i) = false := (rfl)
theorem owned_fref {n : Nat} {f : Nat} : owned (.fref n f) = false := (rfl)
theorem owned_hid : owned (.hid) = true := (rfl)
theorem owned_dead : owned (.dead) = false := (rfl)
theorem owned_scr {ns : List Int} : owned (.scr ns) = false := (rfl)
theorem owned_exc {k : Nat} {fs : List (Nat × D)} : owned (.exc k fs) = false := (rfl)
theorem isNon_non : isNon (.non) = true := (rfl)
theorem isNon_bl {b : Bool} : isNon (.bl b) = false := (rfl)
theorem isNon_int {b : Int} : isNon (.int b) = false := (rfl)
theorem isNon_str {z : Tx} : isNon (.str z) = false := (rfl)
theorem isNon_tup {ds : List D} : isNon (.tup ds) = false := (rfl)
theorem isNon_lst {ds : List D} : isNon (.lst ds) = false := (rfl)
theorem isNon_dct {ks : List (Tx × D)} : isNon (.dct ks) = false := (rfl)
theorem isNon_obj {k : Nat} {fs : List (Nat × D)} : isNon (.obj k fs) = false := (rfl)
theorem isNon_olst {ds : List D} : isNon (.olst ds) = false := (rfl)
theorem isNon_odct {ks : List (Tx × D)} : isNon (.odct ks) = false := (rfl)
theorem isNon_oobj {k : Nat} {fs : List (Nat × D)} : isNon (.oobj k fs) = false := (rfl)
theorem isNon_loc {n : Nat} : isNon (.loc n) = false := (rfl)
theorem isNon_sref {i : Nat} : isNon (.sref i) = false := (rfl)
theorem isNon_fref {n : Nat} {f : Nat} : isNon (.fref n f) = false := (rfl)
theorem isNon_hid : isNon (.hid) = false := (rfl)
theorem isNon_dead : isNon (.dead) = false := (rfl)
theorem isNon_scr {ns : List Int} : isNon (.scr ns) = false := (rfl)
theorem isNon_exc {k : Nat} {fs : List (Nat × D)} : isNon (.exc k fs) = false := (rfl)
theorem recvOk_non : recvOk (.non) = true := (rfl)
theorem recvOk_bl {b : Bool} : recvOk (.bl b) = true := (rfl)
theorem recvOk_int {b : Int} : recvOk (.int b) = true := (rfl)
theorem recvOk_str {z : Tx} : recvOk (.str z) = true := (rfl)
theorem recvOk_tup {ds : List D} : recvOk (.tup ds) = true := (rfl)
theorem recvOk_lst {ds : List D} : recvOk (.lst ds) = true := (rfl)
theorem recvOk_dct {ks : List (Tx × D)} : recvOk (.dct ks) = true := (rfl)
theorem recvOk_obj {k : Nat} {fs : List (Nat × D)} : recvOk (.obj k fs) = true := (rfl)
theorem recvOk_olst {ds : List D} : recvOk (.olst ds) = false := (rfl)
theorem recvOk_odct {ks : List (Tx × D)} : recvOk (.odct ks) = false := (rfl)
theorem recvOk_oobj {k : Nat} {fs : List (Nat × D)} : recvOk (.oobj k fs) = false := (rfl)
theorem recvOk_loc {n : Nat} : recvOk (.loc n) = true := (rfl)
theorem recvOk_sref {i : Nat} : recvOk (.sref i) = false := (rfl)
theorem recvOk_fref {n : Nat} {f : Nat} : recvOk (.fref n f) = false := (rfl)
theorem recvOk_hid : recvOk (.hid) = false := (rfl)
theorem recvOk_dead : recvOk (.dead) = false := (rfl)
theorem recvOk_scr {ns : List Int} : recvOk (.scr ns) = true := (rfl)
theorem recvOk_exc {k : Nat} {fs : List (Nat × D)} : recvOk (.exc k fs) = true := (rfl)
theorem keepOk_non : keepOk (.non) = true := (rfl)
theorem keepOk_bl {b : Bool} : keepOk (.bl b) = true := (rfl)
theorem keepOk_int {b : Int} : keepOk (.int b) = true := (rfl)
theorem keepOk_str {z : Tx} : keepOk (.str z) = true := (rfl)
theorem keepOk_tup {ds : List D} : keepOk (.tup ds) = true := (rfl)
theorem keepOk_lst {ds : List D} : keepOk (.lst ds) = true := (rfl)
theorem keepOk_dct {ks : List (Tx × D)} : keepOk (.dct ks) = true := (rfl)
theorem keepOk_obj {k : Nat} {fs : List (Nat × D)} : keepOk (.obj k fs) = true := (rfl)
theorem keepOk_olst {ds : List D} : keepOk (.olst ds) = false := (rfl)
theorem keepOk_odct {ks : List (Tx × D)} : keepOk (.odct ks) = false := (rfl)
theorem keepOk_oobj {k : Nat} {fs : List (Nat × D)} : keepOk (.oobj k fs) = false := (rfl)
theorem keepOk_loc {n : Nat} : keepOk (.loc n) = true := (rfl)
theorem keepOk_sref {i : Nat} : keepOk (.sref i) = false := (rfl)
theorem keepOk_fref {n : Nat} {f : Nat} : keepOk (.fref n f) = false := (rfl)
theorem keepOk_hid : keepOk (.hid) = false := (rfl)
theorem keepOk_dead : keepOk (.dead) = false := (rfl)
theorem keepOk_scr {ns : List Int} : keepOk (.scr ns) = true := (rfl)
theorem keepOk_exc {k : Nat} {fs : List (Nat × D)} : keepOk (.exc k fs) = true := (rfl)
theorem isLs_non : isLs (.non) = false := (rfl)
theorem isLs_bl {b : Bool} : isLs (.bl b) = false := (rfl)
theorem isLs_int {b : Int} : isLs (.int b) = false := (rfl)
theorem isLs_str {z : Tx} : isLs (.str z) = false := (rfl)
theorem isLs_tup {ds : List D} : isLs (.tup ds) = false := (rfl)
theorem isLs_lst {ds : List D} : isLs (.lst ds) = true := (rfl)
theorem isLs_dct {ks : List (Tx × D)} : isLs (.dct ks) = false := (rfl)
theorem isLs_obj {k : Nat} {fs : List (Nat × D)} : isLs (.obj k fs) = false := (rfl)
theorem isLs_olst {ds : List D} : isLs (.olst ds) = true := (rfl)
theorem isLs_odct {ks : List (Tx × D)} : isLs (.odct ks) = false := (rfl)
theorem isLs_oobj {k : Nat} {fs : List (Nat × D)} : isLs (.oobj k fs) = false := (rfl)
theorem isLs_loc {n : Nat} : isLs (.loc n) = true := (rfl)
theorem isLs_sref {i : Nat} : isLs (.sref i) = true := (rfl)
theorem isLs_fref {n : Nat} {f : Nat} : isLs (.fref n f) = true := (rfl)
theorem isLs_hid : isLs (.hid) = false := (rfl)
theorem isLs_dead : isLs (.dead) = false := (rfl)
theorem isLs_scr {ns : List Int} : isLs (.scr ns) = false := (rfl)
theorem isLs_exc {k : Nat} {fs : List (Nat × D)} : isLs (.exc k fs) = false := (rfl)
theorem flat_non : flat (.non) = true := (rfl)
theorem flat_bl {b : Bool} : flat (.bl b) = true := (rfl)
theorem flat_int {b : Int} : flat (.int b) = true := (rfl)
theorem flat_str {z : Tx} : flat (.str z) = true := (rfl)
theorem flat_tup {ds : List D} : flat (.tup ds) = false := (rfl)
theorem flat_lst {ds : List D} : flat (.lst ds) = false := (rfl)
theorem flat_dct {ks : List (Tx × D)} : flat (.dct ks) = false := (rfl)
theorem flat_obj {k : Nat} {fs : List (Nat × D)} : flat (.obj k fs) = false := (rfl)
theorem flat_olst {ds : List D} : flat (.olst ds) = false := (rfl)
theorem flat_odct {ks : List (Tx × D)} : flat (.odct ks) = false := (rfl)
theorem flat_oobj {k : Nat} {fs : List (Nat × D)} : flat (.oobj k fs) = false := (rfl)
theorem flat_loc {n : Nat} : flat (.loc n) = false := (rfl)
theorem flat_sref {i : Nat} : flat (.sref i) = false := (rfl)
theorem flat_fref {n : Nat} {f : Nat} : flat (.fref n f) = false := (rfl)
theorem flat_hid : flat (.hid) = false := (rfl)
theorem flat_dead : flat (.dead) = false := (rfl)
theorem flat_scr {ns : List Int} : flat (.scr ns) = false := (rfl)
theorem flat_exc {k : Nat} {fs : List (Nat × D)} : flat (.exc k fs) = false := (rfl)
theorem ldt_non : ldt (.non) = false := (rfl)
theorem ldt_bl {b : Bool} : ldt (.bl b) = false := (rfl)
theorem ldt_int {b : Int} : ldt (.int b) = false := (rfl)
theorem ldt_str {z : Tx} : ldt (.str z) = false := (rfl)
theorem ldt_tup {ds : List D} : ldt (.tup ds) = false := (rfl)
theorem ldt_lst {ds : List D} : ldt (.lst ds) = false := (rfl)
theorem ldt_dct {ks : List (Tx × D)} : ldt (.dct ks) = false := (rfl)
theorem ldt_obj {k : Nat} {fs : List (Nat × D)} : ldt (.obj k fs) = false := (rfl)
theorem ldt_olst {ds : List D} : ldt (.olst ds) = true := (rfl)
theorem ldt_odct {ks : List (Tx × D)} : ldt (.odct ks) = true := (rfl)
theorem ldt_oobj {k : Nat} {fs : List (Nat × D)} : ldt (.oobj k fs) = false := (rfl)
theorem ldt_loc {n : Nat} : ldt (.loc n) = false := (rfl)
theorem ldt_sref {i : Nat} : ldt (.sref i) = false := (rfl)
theorem ldt_fref {n : Nat} {f : Nat} : ldt (.fref n f) = false := (rfl)
theorem ldt_hid : ldt (.hid) = false := (rfl)
theorem ldt_dead : ldt (.dead) = false := (rfl)
theorem ldt_scr {ns : List Int} : ldt (.scr ns) = false := (rfl)
theorem ldt_exc {k : Nat} {fs : List (Nat × D)} : ldt (.exc k fs) = false := (rfl)
theorem nmOf_non : nmOf (.non) = none := (rfl)
theorem nmOf_bl {b : Bool} : nmOf (.bl b) = none := (rfl)
theorem nmOf_int {b : Int} : nmOf (.int b) = none := (rfl)
theorem nmOf_str {z : Tx} : nmOf (.str z) = none := (rfl)
theorem nmOf_tup {ds : List D} : nmOf (.tup ds) = none := (rfl)
theorem nmOf_lst {ds : List D} : nmOf (.lst ds) = none := (rfl)
theorem nmOf_dct {ks : List (Tx × D)} : nmOf (.dct ks) = none := (rfl)
theorem nmOf_obj {k : Nat} {fs : List (Nat × D)} : nmOf (.obj k fs) = none := (rfl)
theorem nmOf_olst {ds : List D} : nmOf (.olst ds) = none := (rfl)
theorem nmOf_odct {ks : List (Tx × D)} : nmOf (.odct ks) = none := (rfl)
theorem nmOf_oobj {k : Nat} {fs : List (Nat × D)} : nmOf (.oobj k fs) = none := (rfl)
theorem nmOf_loc {n : Nat} : nmOf (.loc n) = some (.cell n) := (rfl)
theorem nmOf_sref {i : Nat} : nmOf (.sref i) = some (.slot i) := (rfl)
theorem nmOf_fref {n : Nat} {f : Nat} : nmOf (.fref n f) = some (.fld n f) := (rfl)
theorem nmOf_hid : nmOf (.hid) = none := (rfl)
theorem nmOf_dead : nmOf (.dead) = none := (rfl)
theorem nmOf_scr {ns : List Int} : nmOf (.scr ns) = none := (rfl)
theorem nmOf_exc {k : Nat} {fs : List (Nat × D)} : nmOf (.exc k fs) = none := (rfl)
theorem esc_non : esc s (.non) = .ok (.non) s := (rfl)
theorem cont_non : cont s (.non) = some (.non) := (rfl)
theorem asgD_non {j : Nat} : asgD s j (.non) = (esc s (.non)).fl fun d s => .nx { s with env := s.env.set j (some d) } := (rfl)
theorem retD_non : retD s (.non) = .ret (.non) s := (rfl)
theorem ownO_non : ownO (some (some (.non))) = none := (rfl)
theorem ownC_non : ownC (some (.non)) = none := (rfl)
theorem objO_non : objO (some (.non)) = none := (rfl)
theorem dataO_non : dataO (some (.non)) = some (.non) := (rfl)
theorem isListO_non : isListO (some (.non)) = some false := (rfl)
theorem isTupO_non : isTupO (some (.non)) = some false := (rfl)
theorem objOf_non : objOf s (.non) = asObj s (.non) := (rfl)
theorem fldR_non {g : Nat} : fldR g s x (.non) = .ok (.non) s := (rfl)
theorem isIc_int_non : isIc T s (.non) .int = some false := (rfl)
theorem isIc_bool_non : isIc T s (.non) .bool = some false := (rfl)
theorem isIc_str_non : isIc T s (.non) .str = some false := (rfl)
theorem esc_bl {b : Bool} : esc s (.bl b) = .ok (.bl b) s := (rfl)
theorem cont_bl {b : Bool} : cont s (.bl b) = some (.bl b) := (rfl)
theorem asgD_bl {b : Bool} {j : Nat} : asgD s j (.bl b) = (esc s (.bl b)).fl fun d s => .nx { s with env := s.env.set j (some d) } := (rfl)
theorem retD_bl {b : Bool} : retD s (.bl b) = .ret (.bl b) s := (rfl)
theorem ownO_bl {b : Bool} : ownO (some (some (.bl b))) = none := (rfl)
theorem ownC_bl {b : Bool} : ownC (some (.bl b)) = none := (rfl)
theorem objO_bl {b : Bool} : objO (some (.bl b)) = none := (rfl)
theorem dataO_bl {b : Bool} : dataO (some (.bl b)) = some (.bl b) := (rfl)
theorem objOf_bl {b : Bool} : objOf s (.bl b) = asObj s (.bl b) := (rfl)
theorem fldR_bl {b : Bool} {g : Nat} : fldR g s x (.bl b) = .ok (.bl b) s := (rfl)
theorem isIc_int_bl {b : Bool} : isIc T s (.bl b) .int = some true := (rfl)
theorem isIc_bool_bl {b : Bool} : isIc T s (.bl b) .bool = some true := (rfl)
theorem isIc_str_bl {b : Bool} : isIc T s (.bl b) .str = some false := (rfl)
theorem esc_int {b : Int} : esc s (.int b) = .ok (.int b) s := (rfl)
theorem cont_int {b : Int} : cont s (.int b) = some (.int b) := (rfl)
theorem asgD_int {b : Int} {j : Nat} : asgD s j (.int b) = (esc s (.int b)).fl fun d s => .nx { s with env := s.env.set j (some d) } := (rfl)
theorem retD_int {b : Int} : retD s (.int b) = .ret (.int b) s := (rfl)
theorem ownO_int {b : Int} : ownO (some (some (.int b))) = none := (rfl)
theorem ownC_int {b : Int} : ownC (some (.int b)) = none := (rfl)
theorem objO_int {b : Int} : objO (some (.int b)) = none := (rfl)
theorem dataO_int {b : Int} : dataO (some (.int b)) = some (.int b) := (rfl)
theorem isListO_int {b : Int} : isListO (some (.int b)) = some false := (rfl)
theorem isTupO_int {b : Int} : isTupO (some (.int b)) = some false := (rfl)
theorem objOf_int {b : Int} : objOf s (.int b) = asObj s (.int b) := (rfl)
theorem fldR_int {b : Int} {g : Nat} : fldR g s x (.int b) = .ok (.int b) s := (rfl)
theorem isIc_int_int {b : Int} : isIc T s (.int b) .int = some true := (rfl)
theorem isIc_bool_int {b : Int} : isIc T s (.int b) .bool = some false := (rfl)
theorem isIc_str_int {b : Int} : isIc T s (.int b) .str = some false := (rfl)
theorem esc_str {z : Tx} : esc s (.str z) = .ok (.str z) s := (rfl)
theorem cont_str {z : Tx} : cont s (.str z) = some (.str z) := (rfl)
theorem asgD_str {z : Tx} {j : Nat} : asgD s j (.str z) = (esc s (.str z)).fl fun d s => .nx { s with env := s.env.set j (some d) } := (rfl)
theorem retD_str {z : Tx} : retD s (.str z) = .ret (.str z) s := (rfl)
theorem ownO_str {z : Tx} : ownO (some (some (.str z))) = none := (rfl)
theorem ownC_str {z : Tx} : ownC (some (.str z)) = none := (rfl)
theorem objO_str {z : Tx} : objO (some (.str z)) = none := (rfl)
theorem bListO_str {z : Tx} : bListO (some (.str z)) = some (.olst (z.map fun n => .str [n])) := (rfl)
theorem ixO_str {z : Tx} {j : Int} : ixO (some (.str z)) j = (atI z j).map fun n => .str [n] := (rfl)
theorem lenO_str {z : Tx} : lenO (some (.str z)) = some (.int z.length) := (rfl)
theorem slO_str {z : Tx} {lo hi : Option Int} : slO (some (.str z)) lo hi = some (.str (cut z lo hi)) := (rfl)
theorem itO_str {z : Tx} : itO (some (.str z)) = some (z.map fun n => .str [n]) := (rfl)
theorem dataO_str {z : Tx} : dataO (some (.str z)) = some (.str z) := (rfl)
theorem isListO_str {z : Tx} : isListO (some (.str z)) = some false := (rfl)
theorem isTupO_str {z : Tx} : isTupO (some (.str z)) = some false := (rfl)
theorem objOf_str {z : Tx} : objOf s (.str z) = asObj s (.str z) := (rfl)
theorem fldR_str {z : Tx} {g : Nat} : fldR g s x (.str z) = .ok (.str z) s := (rfl)
theorem isIc_int_str {z : Tx} : isIc T s (.str z) .int = some false := (rfl)
theorem isIc_bool_str {z : Tx} : isIc T s (.str z) .bool = some false := (rfl)
theorem isIc_str_str {z : Tx} : isIc T s (.str z) .str = some true := (rfl)
theorem esc_tup {ds : List D} : esc s (.tup ds) = .ok (.tup ds) s := (rfl)
theorem cont_tup {ds : List D} : cont s (.tup ds) = some (.tup ds) := (rfl)
theorem asgD_tup {ds : List D} {j : Nat} : asgD s j (.tup ds) = (esc s (.tup ds)).fl fun d s => .nx { s with env := s.env.set j (some d) } := (rfl)
theorem retD_tup {ds : List D} : retD s (.tup ds) = .ret (.tup ds) s := (rfl)
theorem ownO_tup {ds : List D} : ownO (some (some (.tup ds))) = none := (rfl)
theorem ownC_tup {ds : List D} : ownC (some (.tup ds)) = none := (rfl)
theorem objO_tup {ds : List D} : objO (some (.tup ds)) = none := (rfl)
theorem seqO_tup {ds : List D} : seqO (some (.tup ds)) = some ds := (rfl)
theorem ixO_tup {ds : List D} {j : Int} : ixO (some (.tup ds)) j = atI ds j := (rfl)
theorem lenO_tup {ds : List D} : lenO (some (.tup ds)) = some (.int ds.length) := (rfl)
theorem bListO_tup {ds : List D} : bListO (some (.tup ds)) = some (.olst ds) := (rfl)
theorem slO_tup {ds : List D} {lo hi : Option Int} : slO (some (.tup ds)) lo hi = some (.tup (cut ds lo hi)) := (rfl)
theorem itO_tup {ds : List D} : itO (some (.tup ds)) = some ds := (rfl)
theorem dataO_tup {ds : List D} : dataO (some (.tup ds)) = some (.tup ds) := (rfl)
theorem isListO_tup {ds : List D} : isListO (some (.tup ds)) = some false := (rfl)
theorem isTupO_tup {ds : List D} : isTupO (some (.tup ds)) = some true := (rfl)
theorem objOf_tup {ds : List D} : objOf s (.tup ds) = asObj s (.tup ds) := (rfl)
theorem fldR_tup {ds : List D} {g : Nat} : fldR g s x (.tup ds) = .ok (.tup ds) s := (rfl)
theorem esc_lst {ds : List D} : esc s (.lst ds) = .ok (.lst ds) s := (rfl)
theorem cont_lst {ds : List D} : cont s (.lst ds) = some (.lst ds) := (rfl)
theorem asgD_lst {ds : List D} {j : Nat} : asgD s j (.lst ds) = (esc s (.lst ds)).fl fun d s => .nx { s with env := s.env.set j (some d) } := (rfl)
theorem retD_lst {ds : List D} : retD s (.lst ds) = .ret (.lst ds) s := (rfl)
theorem ownO_lst {ds : List D} : ownO (some (some (.lst ds))) = none := (rfl)
theorem ownC_lst {ds : List D} : ownC (some (.lst ds)) = none := (rfl)
theorem lstO_lst {ds : List D} : lstO (some (.lst ds)) = some ds := (rfl)
theorem objO_lst {ds : List D} : objO (some (.lst ds)) = none := (rfl)
theorem seqO_lst {ds : List D} : seqO (some (.lst ds)) = some ds := (rfl)
theorem ixO_lst {ds : List D} {j : Int} : ixO (some (.lst ds)) j = atI ds j := (rfl)
theorem lenO_lst {ds : List D} : lenO (some (.lst ds)) = some (.int ds.length) := (rfl)
theorem bListO_lst {ds : List D} : bListO (some (.lst ds)) = some (.olst ds) := (rfl)
theorem slO_lst {ds : List D} {lo hi : Option Int} : slO (some (.lst ds)) lo hi = some (.olst (cut ds lo hi)) := (rfl)
theorem itO_lst {ds : List D} : itO (some (.lst ds)) = some ds := (rfl)
theorem dataO_lst {ds : List D} : dataO (some (.lst ds)) = some (.lst ds) := (rfl)
theorem isListO_lst {ds : List D} : isListO (some (.lst ds)) = some true := (rfl)
theorem isTupO_lst {ds : List D} : isTupO (some (.lst ds)) = some false := (rfl)
theorem objOf_lst {ds : List D} : objOf s (.lst ds) = asObj s (.lst ds) := (rfl)
theorem fldR_lst {ds : List D} {g : Nat} : fldR g s x (.lst ds) = .ok (.lst ds) s := (rfl)
theorem esc_dct {ks : List (Tx × D)} : esc s (.dct ks) = .ok (.dct ks) s := (rfl)
theorem cont_dct {ks : List (Tx × D)} : cont s (.dct ks) = some (.dct ks) := (rfl)
theorem asgD_dct {ks : List (Tx × D)} {j : Nat} : asgD s j (.dct ks) = (esc s (.dct ks)).fl fun d s => .nx { s with env := s.env.set j (some d) } := (rfl)
theorem retD_dct {ks : List (Tx × D)} : retD s (.dct ks) = .ret (.dct ks) s := (rfl)
theorem ownO_dct {ks : List (Tx × D)} : ownO (some (some (.dct ks))) = none := (rfl)
theorem ownC_dct {ks : List (Tx × D)} : ownC (some (.dct ks)) = none := (rfl)
theorem dctO_dct {ks : List (Tx × D)} : dctO (some (.dct ks)) = some ks := (rfl)
theorem objO_dct {ks : List (Tx × D)} : objO (some (.dct ks)) = none := (rfl)
theorem ixK_dct {ks : List (Tx × D)} {j : Tx} : ixK (some (.dct ks)) j = ks.lookup j := (rfl)
theorem dataO_dct {ks : List (Tx × D)} : dataO (some (.dct ks)) = some (.dct ks) := (rfl)
theorem objOf_dct {ks : List (Tx × D)} : objOf s (.dct ks) = asObj s (.dct ks) := (rfl)
theorem fldR_dct {ks : List (Tx × D)} {g : Nat} : fldR g s x (.dct ks) = .ok (.dct ks) s := (rfl)
theorem esc_obj {k : Nat} {fs : List (Nat × D)} : esc s (.obj k fs) = .ok (.obj k fs) s := (rfl)
theorem cont_obj {k : Nat} {fs : List (Nat × D)} : cont s (.obj k fs) = some (.obj k fs) := (rfl)
theorem asgD_obj {k : Nat} {fs : List (Nat × D)} {j : Nat} : asgD s j (.obj k fs) = (esc s (.obj k fs)).fl fun d s => .nx { s with env := s.env.set j (some d) } := (rfl)
theorem retD_obj {k : Nat} {fs : List (Nat × D)} : retD s (.obj k fs) = .ret (.obj k fs) s := (rfl)
theorem ownO_obj {k : Nat} {fs : List (Nat × D)} : ownO (some (some (.obj k fs))) = none := (rfl)
theorem ownC_obj {k : Nat} {fs : List (Nat × D)} : ownC (some (.obj k fs)) = none := (rfl)
theorem objO_obj {k : Nat} {fs : List (Nat × D)} : objO (some (.obj k fs)) = some (k, fs) := (rfl)
theorem dataO_obj {k : Nat} {fs : List (Nat × D)} : dataO (some (.obj k fs)) = some (.obj k fs) := (rfl)
theorem objOf_obj {k : Nat} {fs : List (Nat × D)} : objOf s (.obj k fs) = asObj s (.obj k fs) := (rfl)
theorem fldR_obj {k : Nat} {fs : List (Nat × D)} {g : Nat} : fldR g s x (.obj k fs) = .ok (.obj k fs) s := (rfl)
theorem esc_olst {ds : List D} : esc s (.olst ds) = .ok (.lst ds) s := (rfl)
theorem cont_olst {ds : List D} : cont s (.olst ds) = some (.olst ds) := (rfl)
theorem asgD_olst {ds : List D} {j : Nat} : asgD s j (.olst ds) = if j = 0 then .stuck else .nx { s with env := s.env.set j (some (.olst ds)) } := (rfl)
theorem retD_olst {ds : List D} : retD s (.olst ds) = .ret (.olst ds) s := (rfl)
theorem ownO_olst {ds : List D} : ownO (some (some (.olst ds))) = some (.olst ds) := (rfl)
theorem ownC_olst {ds : List D} : ownC (some (.olst ds)) = some (.olst ds) := (rfl)
theorem lstO_olst {ds : List D} : lstO (some (.olst ds)) = some ds := (rfl)
theorem objO_olst {ds : List D} : objO (some (.olst ds)) = none := (rfl)
theorem seqO_olst {ds : List D} : seqO (some (.olst ds)) = some ds := (rfl)
theorem ixO_olst {ds : List D} {j : Int} : ixO (some (.olst ds)) j = atI ds j := (rfl)
theorem lenO_olst {ds : List D} : lenO (some (.olst ds)) = some (.int ds.length) := (rfl)
theorem bListO_olst {ds : List D} : bListO (some (.olst ds)) = some (.olst ds) := (rfl)
theorem slO_olst {ds : List D} {lo hi : Option Int} : slO (some (.olst ds)) lo hi = some (.olst (cut ds lo hi)) := (rfl)
theorem itO_olst {ds : List D} : itO (some (.olst ds)) = some ds := (rfl)
theorem dataO_olst {ds : List D} : dataO (some (.olst ds)) = some (.lst ds) := (rfl)
theorem isListO_olst {ds : List D} : isListO (some (.olst ds)) = some true := (rfl)
theorem isTupO_olst {ds : List D} : isTupO (some (.olst ds)) = some false := (rfl)
theorem objOf_olst {ds : List D} : objOf s (.olst ds) = asObj s (.olst ds) := (rfl)
theorem fldR_olst {ds : List D} {g m : Nat} : fldR g s (.loc m) (.olst ds) = .ok (.fref m g) s := (rfl)
theorem esc_odct {ks : List (Tx × D)} : esc s (.odct ks) = .ok (.dct ks) s := (rfl)
theorem cont_odct {ks : List (Tx × D)} : cont s (.odct ks) = some (.odct ks) := (rfl)
theorem asgD_odct {ks : List (Tx × D)} {j : Nat} : asgD s j (.odct ks) = if j = 0 then .stuck else .nx { s with env := s.env.set j (some (.odct ks)) } := (rfl)
theorem retD_odct {ks : List (Tx × D)} : retD s (.odct ks) = .ret (.odct ks) s := (rfl)
theorem ownO_odct {ks : List (Tx × D)} : ownO (some (some (.odct ks))) = some (.odct ks) := (rfl)
theorem ownC_odct {ks : List (Tx × D)} : ownC (some (.odct ks)) = some (.odct ks) := (rfl)
theorem dctO_odct {ks : List (Tx × D)} : dctO (some (.odct ks)) = some ks := (rfl)
theorem objO_odct {ks : List (Tx × D)} : objO (some (.odct ks)) = none := (rfl)
theorem ixK_odct {ks : List (Tx × D)} {j : Tx} : ixK (some (.odct ks)) j = ks.lookup j := (rfl)
theorem dataO_odct {ks : List (Tx × D)} : dataO (some (.odct ks)) = some (.odct ks) := (rfl)
theorem objOf_odct {ks : List (Tx × D)} : objOf s (.odct ks) = asObj s (.odct ks) := (rfl)
theorem fldR_odct {ks : List (Tx × D)} {g m : Nat} : fldR g s (.loc m) (.odct ks) = .ok (.fref m g) s := (rfl)
theorem esc_oobj {k : Nat} {fs : List (Nat × D)} : esc s (.oobj k fs) = .ok (.obj k fs) s := (rfl)
theorem cont_oobj {k : Nat} {fs : List (Nat × D)} : cont s (.oobj k fs) = some (.oobj k fs) := (rfl)
theorem asgD_oobj {k : Nat} {fs : List (Nat × D)} {j : Nat} : asgD s j (.oobj k fs) = if j = 0 then .stuck else .nx { s with env := s.env.set j (some (.oobj k fs)) } := (rfl)
theorem retD_oobj {k : Nat} {fs : List (Nat × D)} : retD s (.oobj k fs) = .ret (.oobj k fs) s := (rfl)
theorem ownO_oobj {k : Nat} {fs : List (Nat × D)} : ownO (some (some (.oobj k fs))) = some (.oobj k fs) := (rfl)
theorem ownC_oobj {k : Nat} {fs : List (Nat × D)} : ownC (some (.oobj k fs)) = some (.oobj k fs) := (rfl)
theorem objO_oobj {k : Nat} {fs : List (Nat × D)} : objO (some (.oobj k fs)) = some (k, fs) := (rfl)
theorem dataO_oobj {k : Nat} {fs : List (Nat × D)} : dataO (some (.oobj k fs)) = some (.oobj k fs) := (rfl)
theorem objOf_oobj {k : Nat} {fs : List (Nat × D)} : objOf s (.oobj k fs) = asObj s (.oobj k fs) := (rfl)
theorem fldR_oobj {k : Nat} {fs : List (Nat × D)} {g m : Nat} : fldR g s (.loc m) (.oobj k fs) = .ok (.fref m g) s := (rfl)
theorem esc_loc {n : Nat} : esc s (.loc n) = .ok (.loc n) s := (rfl)
theorem cont_loc {n : Nat} : cont s (.loc n) = own s (.cell n) := (rfl)
theorem asgD_loc {n : Nat} {j : Nat} : asgD s j (.loc n) = (esc s (.loc n)).fl fun d s => .nx { s with env := s.env.set j (some d) } := (rfl)
theorem retD_loc {n : Nat} : retD s (.loc n) = .ret (.loc n) s := (rfl)
theorem ownO_loc {n : Nat} : ownO (some (some (.loc n))) = none := (rfl)
theorem ownC_loc {n : Nat} : ownC (some (.loc n)) = none := (rfl)
theorem objO_loc {n : Nat} : objO (some (.loc n)) = none := (rfl)
theorem dataO_loc {n : Nat} : dataO (some (.loc n)) = some (.loc n) := (rfl)
theorem objOf_loc {n : Nat} : objOf s (.loc n) = asObj s (.loc n) := (rfl)
theorem fldR_loc {n : Nat} {g : Nat} : fldR g s x (.loc n) = .ok (.loc n) s := (rfl)
theorem esc_sref {i : Nat} : esc s (.sref i) = escO (own s (.slot i)) i s := (rfl)
theorem cont_sref {i : Nat} : cont s (.sref i) = own s (.slot i) := (rfl)
theorem asgD_sref {i : Nat} {j : Nat} : asgD s j (.sref i) = (esc s (.sref i)).fl fun d s => .nx { s with env := s.env.set j (some d) } := (rfl)
theorem retD_sref {i : Nat} : retD s (.sref i) = retO (own s (.slot i)) i s := (rfl)
theorem ownO_sref {i : Nat} : ownO (some (some (.sref i))) = none := (rfl)
theorem ownC_sref {i : Nat} : ownC (some (.sref i)) = none := (rfl)
theorem objO_sref {i : Nat} : objO (some (.sref i)) = none := (rfl)
theorem dataO_sref {i : Nat} : dataO (some (.sref i)) = some (.sref i) := (rfl)
theorem objOf_sref {i : Nat} : objOf s (.sref i) = asObj s (.sref i) := (rfl)
theorem fldR_sref {i : Nat} {g : Nat} : fldR g s x (.sref i) = .ok (.sref i) s := (rfl)
theorem cont_fref {n : Nat} {f : Nat} : cont s (.fref n f) = own s (.fld n f) := (rfl)
theorem asgD_fref {n : Nat} {f : Nat} {j : Nat} : asgD s j (.fref n f) = (esc s (.fref n f)).fl fun d s => .nx { s with env := s.env.set j (some d) } := (rfl)
theorem ownO_fref {n : Nat} {f : Nat} : ownO (some (some (.fref n f))) = none := (rfl)
theorem ownC_fref {n : Nat} {f : Nat} : ownC (some (.fref n f)) = none := (rfl)
theorem objO_fref {n : Nat} {f : Nat} : objO (some (.fref n f)) = none := (rfl)
theorem dataO_fref {n : Nat} {f : Nat} : dataO (some (.fref n f)) = some (.fref n f) := (rfl)
theorem objOf_fref {n : Nat} {f : Nat} : objOf s (.fref n f) = asObj s (.fref n f) := (rfl)
theorem fldR_fref {n : Nat} {f : Nat} {g : Nat} : fldR g s x (.fref n f) = .ok (.fref n f) s := (rfl)
theorem cont_hid : cont s (.hid) = some (.hid) := (rfl)
theorem ownO_hid : ownO (some (some (.hid))) = some (.hid) := (rfl)
theorem ownC_hid : ownC (some (.hid)) = some (.hid) := (rfl)
theorem objO_hid : objO (some (.hid)) = none := (rfl)
theorem objOf_hid : objOf s (.hid) = asObj s (.hid) := (rfl)
theorem cont_dead : cont s (.dead) = some (.dead) := (rfl)
theorem ownO_dead : ownO (some (some (.dead))) = none := (rfl)
theorem ownC_dead : ownC (some (.dead)) = none := (rfl)
theorem objO_dead : objO (some (.dead)) = none := (rfl)
theorem dataO_dead : dataO (some (.dead)) = some (.dead) := (rfl)
theorem objOf_dead : objOf s (.dead) = asObj s (.dead) := (rfl)
theorem fldR_dead {g : Nat} : fldR g s x (.dead) = .ok (.dead) s := (rfl)
theorem esc_scr {ns : List Int} : esc s (.scr ns) = .ok (.scr ns) s := (rfl)
theorem cont_scr {ns : List Int} : cont s (.scr ns) = some (.scr ns) := (rfl)
theorem asgD_scr {ns : List Int} {j : Nat} : asgD s j (.scr ns) = (esc s (.scr ns)).fl fun d s => .nx { s with env := s.env.set j (some d) } := (rfl)
theorem retD_scr {ns : List Int} : retD s (.scr ns) = .ret (.scr ns) s := (rfl)
theorem ownO_scr {ns : List Int} : ownO (some (some (.scr ns))) = none := (rfl)
theorem ownC_scr {ns : List Int} : ownC (some (.scr ns)) = none := (rfl)
theorem objO_scr {ns : List Int} : objO (some (.scr ns)) = none := (rfl)
theorem ixO_scr {ns : List Int} {j : Int} : ixO (some (.scr ns)) j = (atI ns j).map .int := (rfl)
theorem lenO_scr {ns : List Int} : lenO (some (.scr ns)) = some (.int ns.length) := (rfl)
theorem itO_scr {ns : List Int} : itO (some (.scr ns)) = some (ns.map .int) := (rfl)
theorem dataO_scr {ns : List Int} : dataO (some (.scr ns)) = some (.scr ns) := (rfl)
theorem objOf_scr {ns : List Int} : objOf s (.scr ns) = asObj s (.scr ns) := (rfl)
theorem fldR_scr {ns : List Int} {g : Nat} : fldR g s x (.scr ns) = .ok (.scr ns) s := (rfl)
theorem esc_exc {k : Nat} {fs : List (Nat × D)} : esc s (.exc k fs) = .ok (.exc k fs) s := (rfl)
theorem cont_exc {k : Nat} {fs : List (Nat × D)} : cont s (.exc k fs) = some (.exc k fs) := (rfl)
theorem asgD_exc {k : Nat} {fs : List (Nat × D)} {j : Nat} : asgD s j (.exc k fs) = (esc s (.exc k fs)).fl fun d s => .nx { s with env := s.env.set j (some d) } := (rfl)
theorem retD_exc {k : Nat} {fs : List (Nat × D)} : retD s (.exc k fs) = .ret (.exc k fs) s := (rfl)
theorem ownO_exc {k : Nat} {fs : List (Nat × D)} : ownO (some (some (.exc k fs))) = none := (rfl)
theorem ownC_exc {k : Nat} {fs : List (Nat × D)} : ownC (some (.exc k fs)) = none := (rfl)
theorem objO_exc {k : Nat} {fs : List (Nat × D)} : objO (some (.exc k fs)) = none := (rfl)
theorem dataO_exc {k : Nat} {fs : List (Nat × D)} : dataO (some (.exc k fs)) = some (.exc k fs) := (rfl)
theorem objOf_exc {k : Nat} {fs : List (Nat × D)} : objOf s (.exc k fs) = some (k, fs) := (rfl)
theorem fldR_exc {k : Nat} {fs : List (Nat × D)} {g : Nat} : fldR g s x (.exc k fs) = .ok (.exc k fs) s := (rfl)
theorem isIc_ownx {k : Nat} {fs : List (Nat × D)} {c : Nat} : isIc T s (.exc k fs) (.own c) = some (T.sub k c) := (rfl)
theorem isIc_verrx {k : Nat} {fs : List (Nat × D)} : isIc T s (.exc k fs) .verr = some (T.sub k 99) := (rfl)
theorem isIc_own_obj {k : Nat} {fs : List (Nat × D)} {c : Nat} : isIc T s (.obj k fs) (.own c) = some (T.sub k c) := (rfl)
theorem isIc_own_int {i : Int} {c : Nat} : isIc T s (.int i) (.own c) = some false := (rfl)
theorem isIc_own_str {i : Tx} {c : Nat} : isIc T s (.str i) (.own c) = some false := (rfl)
theorem isIc_own_bl {i : Bool} {c : Nat} : isIc T s (.bl i) (.own c) = some false := (rfl)
theorem isIc_own_non {c : Nat} : isIc T s .non (.own c) = some false := (rfl)
theorem isIc_list {d : D} : isIc T s d .list = isListO (cont s d) := (rfl)
theorem isIc_tuple {d : D} : isIc T s d .tuple = isTupO (cont s d) := (rfl)
theorem anyIc_nil {d : D} : anyIc T s d [] = some false := (rfl)
theorem anyIc_t {d : D} {c : Ic} {r : List Ic} (h : isIc T s d c = some true) : anyIc T s d (c :: r) = some true := by unfold anyIc; rw [h]
theorem anyIc_f {d : D} {c : Ic} {r : List Ic} (h : isIc T s d c = some false) : anyIc T s d (c :: r) = anyIc T s d r := by rw [anyIc, h]
theorem ownAt_slot {i : Nat} : own s (.slot i) = ownO s.env[i]? := (rfl)
theorem ownAt_cell {n : Nat} : own s (.cell n) = ownC s.sto[n]? := (rfl)
theorem ownAt_fld {n f : Nat} : own s (.fld n f) = ownF s.sto[n]? f := (rfl)
theorem ownF_oobj {k f : Nat} {fs : List (Nat × D)} : ownF (some (.oobj k fs)) f = ownC (fs.lookup f) := (rfl)
theorem escO_olst {ds : List D} {i : Nat} : escO (some (.olst ds)) i s = .ok (.lst ds) { s with env := s.env.set i (some (.lst ds)) } := (rfl)
theorem escO_odct {ds : List (Tx × D)} {i : Nat} : escO (some (.odct ds)) i s = .ok (.dct ds) { s with env := s.env.set i (some (.dct ds)) } := (rfl)
theorem escO_oobj {k : Nat} {ds : List (Nat × D)} {i : Nat} : escO (some (.oobj k ds)) i s = .ok (.obj k ds) { s with env := s.env.set i (some (.obj k ds)) } := (rfl)
theorem retO_olst {ds : List D} {i : Nat} : retO (some (.olst ds)) i s = .ret (.olst ds) { s with env := s.env.set i none } := (rfl)
theorem retO_odct {ds : List (Tx × D)} {i : Nat} : retO (some (.odct ds)) i s = .ret (.odct ds) { s with env := s.env.set i none } := (rfl)
theorem retO_oobj {k : Nat} {ds : List (Nat × D)} {i : Nat} : retO (some (.oobj k ds)) i s = .ret (.oobj k ds) { s with env := s.env.set i none } := (rfl)
theorem asLst_eq {d : D} : asLst s d = lstO (cont s d) := by unfold asLst lstO; split <;> simp_all
theorem asDct_eq {d : D} : asDct s d = dctO (cont s d) := by unfold asDct dctO; split <;> simp_all
theorem asObj_eq {d : D} : asObj s d = objO (cont s d) := by unfold asObj objO; split <;> simp_all
theorem asSeq_eq {d : D} : asSeq s d = seqO (cont s d) := by unfold asSeq seqO; split <;> simp_all
theorem ixD_int {d : D} {i : Int} : ixD s d (.int i) = ixO (cont s d) i := (rfl)
theorem ixD_str {d : D} {i : Tx} : ixD s d (.str i) = ixK (cont s d) i := (rfl)
theorem len_eq {d : D} : biD .len s [d] = lenO (cont s d) := (rfl)
theorem bint_int {i : Int} : biD .int s [.int i] = some (.int i) := (rfl)
theorem bint_bl {i : Bool} : biD .int s [.bl i] = some (.int (if i then 1 else 0)) := (rfl)
theorem bint_str {z : Tx} : biD .int s [.str z] = (readI z).map .int := (rfl)
theorem bstr_int {i : Int} {Q : D → Prop} : oW (biD .str s [.int i]) Q = ((0 ≤ i ∧ i < 10000000000) ∧ Q (.str (showI i))) := oW_ite
theorem blist_eq {d : D} : biD .list s [d] = bListO (cont s d) := (rfl)
theorem bdict_eq {d : D} : biD .dict s [d] = (asDct s d).map .odct := (rfl)
theorem bmax_eq {i j : Int} : biD .max s [.int i, .int j] = some (.int (if j > i then j else i)) := (rfl)
theorem bmin_eq {i j : Int} : biD .min s [.int i, .int j] = some (.int (if j < i then j else i)) := (rfl)
theorem bsum_eq {d : D} : biD .sum s [d] = ((asLst s d).bind intsD).map fun ns => .int ns.sum := (rfl)
theorem slD_eq {d : D} {lo hi : Option Int} : slD s d lo hi = slO (cont s d) lo hi := (rfl)
theorem srcIt_eq {d : D} : srcIt s d = itO (cont s d) := (rfl)
theorem srcs_it {d : D} : srcD .it s [d] = itO (cont s d) := (rfl)
theorem srcs_rng1 {n : Int} {Q : List D → Prop} : oW (srcD .rng1 s [.int n]) Q = ((-4611686018427387904 ≤ n ∧ n < 4611686018427387904) ∧ Q (rng 0 n)) := oW_ite
theorem srcs_rng2 {a b : Int} {Q : List D → Prop} : oW (srcD .rng2 s [.int a, .int b]) Q = (((-4611686018427387904 ≤ a ∧ a < 4611686018427387904) ∧ -4611686018427387904 ≤ b ∧ b < 4611686018427387904) ∧ Q (rng a b)) := oW_ite
theorem srcs_enu {d : D} : srcD .enu s [d] = (asLst s d).map (enum 0) := (rfl)
theorem hide_none : hide s [] = some (s, none) := (rfl)
theorem nms_nil : nms [] = [] := (rfl)
theorem nms_no {d : D} {ds : List D} (h : nmOf d = none) : nms (d :: ds) = nms ds := by unfold nms; rw [List.filterMap_cons, h]
theorem nms_sref {i : Nat} {ds : List D} : nms (.sref i :: ds) = .slot i :: nms ds := (rfl)
theorem nms_loc {i : Nat} {ds : List D} : nms (.loc i :: ds) = .cell i :: nms ds := (rfl)
theorem nms_fref {i f : Nat} {ds : List D} : nms (.fref i f :: ds) = .fld i f :: nms ds := (rfl)
def hideO (s : St) (nm : Nm) (o : Option D) : Option (St × Option (Nm × D)) := match o with
  | some (.olst ds) => some (putAt s nm .hid, some (nm, .olst ds))
  | _ => none
theorem hide_one {nm : Nm} : hide s [nm] = hideO s nm (own s nm) := (rfl)
theorem hideO_olst {nm : Nm} {ds : List D} : hideO s nm (some (.olst ds)) = some (putAt s nm .hid, some (nm, .olst ds)) := (rfl)
theorem unhide_none : unhide s none = some s := (rfl)
def unhideO (s : St) (nm : Nm) (d : D) (o : Option D) : Option St := match o with
  | some .hid => some (putAt s nm d)
  | _ => none
theorem unhide_some {nm : Nm} {d : D} : unhide s (some (nm, d)) = unhideO s nm d (own s nm) := (rfl)
theorem unhideO_hid {nm : Nm} {d : D} : unhideO s nm d (some .hid) = some (putAt s nm d) := (rfl)
theorem put_slot {i : Nat} {d : D} : putAt s (.slot i) d = { s with env := s.env.set i (some d) } := (rfl)
theorem put_cell {n : Nat} {d : D} : putAt s (.cell n) d = { s with sto := s.sto.set n d } := (rfl)
theorem app_eq {x d : D} : bmD .append s x [d] = (esc s d).bind fun d s => nmW (nmOf x) .stuck fun nm => appO s nm (own s nm) d := (rfl)
theorem appO_olst {nm : Nm} {xs : List D} {d : D} {Q : D → St → Prop} {X : XP} : (appO s nm (some (.olst xs)) d).w Q X = (xs.length < 1000000 ∧ Q .non (putAt s nm (.olst (xs ++ [d])))) := Rw_ite
theorem ext_eq {x d : D} {nm : Nm} (h : nmOf x = some nm) : bmD .extend s x [d] = extO s nm (own s nm) (asLst s d) := by
  unfold bmD extO
  dsimp only
  rw [h]
  cases asLst s d with
  | none => rfl
  | some ys =>
    dsimp only
    cases own s nm with
    | none => rfl
    | some y => cases y <;> rfl
theorem extO_olst {nm : Nm} {xs ys : List D} {Q : D → St → Prop} {X : XP} : (extO s nm (some (.olst xs)) (some ys)).w Q X = (xs.length + ys.length ≤ 1000000 ∧ Q .non (putAt s nm (.olst (xs ++ ys)))) := Rw_ite
theorem pop_eq {x : D} : bmD .pop s x [] = nmW (nmOf x) .stuck fun nm => popO s nm (own s nm) := (rfl)
theorem popO_snoc {nm : Nm} {xs : List D} {d : D} : popO s nm (some (.olst (xs ++ [d]))) = .ok d (putAt s nm (.olst xs)) := by
  unfold popO
  simp
theorem clr_eq {x : D} : bmD .clear s x [] = nmW (nmOf x) .stuck fun nm => clrO s nm (own s nm) := (rfl)
theorem clrO_olst {nm : Nm} {xs : List D} : clrO s nm (some (.olst xs)) = .ok .non (putAt s nm (.olst [])) := (rfl)
theorem ins_eq {x d : D} {i : Int} : bmD .insert s x [.int i, d] = (esc s d).bind fun d s => nmW (nmOf x) .stuck fun nm => insO s nm (own s nm) i d := (rfl)
theorem split_eq {z : Tx} {c : Nat} : bmD .split s (.str z) [.str [c]] = .ok (.olst ((splitOn c z).map .str)) s := (rfl)
theorem split2_eq {z : Tx} {a b : Nat} : bmD .split s (.str z) [.str [a, b]] = .ok (.olst ((split2 a b z).map .str)) s := (rfl)
theorem starts_eq {z w : Tx} {i : Int} {Q : D → St → Prop} {X : XP} : (bmD .startswith s (.str z) [.str w, .int i]).w Q X = ((0 ≤ i ∧ i ≤ z.length) ∧ Q (.bl (pfx w (z.drop i.toNat))) s) := Rw_ite
def joinO (z : Tx) (o : Option (List Tx)) (s : St) : R D := match o with
  | some ws => if (joinT z ws).length ≤ lim ∧ ws.length ≤ lim then .ok (.str (joinT z ws)) s else .stuck
  | none => .stuck
theorem join_eq {z : Tx} {d : D} : bmD .join s (.str z) [d] = joinO z ((asLst s d).bind strsD) s := by
  unfold bmD joinO
  dsimp only
  cases (asLst s d).bind strsD <;> rfl
theorem joinO_some {z : Tx} {ws : List Tx} {Q : D → St → Prop} {X : XP} : (joinO z (some ws) s).w Q X = (((joinT z ws).length ≤ 1000000 ∧ ws.length ≤ 1000000) ∧ Q (.str (joinT z ws)) s) := Rw_ite
theorem rk_join {z : Tx} : rk .join s (.str z) = true := (rfl)
theorem rk_split {z : Tx} : rk .split s (.str z) = true := (rfl)
theorem rk_starts {z : Tx} : rk .startswith s (.str z) = true := (rfl)
theorem rk_append : rk .append s x = (asLst s x).isSome := (rfl)
theorem rk_extend : rk .extend s x = (asLst s x).isSome := (rfl)
theorem rk_insert : rk .insert s x = (asLst s x).isSome := (rfl)
theorem rk_pop : rk .pop s x = (asLst s x).isSome := (rfl)
theorem rk_clear : rk .clear s x = (asLst s x).isSome := (rfl)
theorem rk_index : rk .index s x = (asLst s x).isSome := (rfl)
theorem setI {x d : D} {k : Int} : setIxD s x (.int k) d = nmW (nmOf x) .stuck fun nm => stIO s nm (own s nm) k d := by
  unfold setIxD stIO nmW
  cases nmOf x with
  | none => rfl
  | some nm =>
    dsimp only
    cases own s nm with
    | none => rfl
    | some y => cases y <;> rfl
theorem setK {x d : D} {k : Tx} : setIxD s x (.str k) d = nmW (nmOf x) .stuck fun nm => stKO s nm (own s nm) k d := by
  unfold setIxD stKO nmW
  cases nmOf x with
  | none => rfl
  | some nm =>
    dsimp only
    cases own s nm with
    | none => rfl
    | some y => cases y <;> rfl
theorem stIO_olst {nm : Nm} {xs : List D} {k : Int} {d : D} : stIO s nm (some (.olst xs)) k d = match ixN xs.length k with
  | some j => .nx (putAt s nm (.olst (xs.set j d)))
  | none => .stuck := (rfl)
theorem stKO_odct {nm : Nm} {ks : List (Tx × D)} {k : Tx} {d : D} {N : St → Prop} {P : Ps} : (stKO s nm (some (.odct ks)) k d).w N P = (ks.length < 1000000 ∧ N (putAt s nm (.odct (dput k d ks)))) := Fw_ite
theorem nmW_some {α : Type} {nm : Nm} {z : α} {k : Nm → α} : nmW (some nm) z k = k nm := (rfl)
theorem b_addI (i j : Int) : binD .add s (.int i) (.int j) = some (.int (i + j)) := (rfl)
theorem b_subI (i j : Int) : binD .sub s (.int i) (.int j) = some (.int (i - j)) := (rfl)
theorem b_mulI {i j : Int} {Q : D → Prop} : oW (binD .mul s (.int i) (.int j)) Q = (((-18446744073709551616 < i ∧ i < 18446744073709551616) ∨ (-18446744073709551616 < j ∧ j < 18446744073709551616)) ∧ Q (.int (i * j))) := oW_ite
theorem b_fdivI {i j : Int} {Q : D → Prop} : oW (binD .fdiv s (.int i) (.int j)) Q = ((0 < j ∧ j < 1073741824) ∧ Q (.int (i / j))) := oW_ite
theorem b_modI {i j : Int} {Q : D → Prop} : oW (binD .mod s (.int i) (.int j)) Q = ((0 < j) ∧ Q (.int (i % j))) := oW_ite
theorem b_powI {i j : Int} {Q : D → Prop} : oW (binD .pow s (.int i) (.int j)) Q = ((0 ≤ j ∧ j ≤ 1000 ∧ -1000 ≤ i ∧ i ≤ 1000) ∧ Q (.int (i ^ j.toNat))) := oW_ite
theorem b_shrI {i j : Int} {Q : D → Prop} : oW (binD .shr s (.int i) (.int j)) Q = ((0 ≤ j) ∧ Q (.int (i / 2 ^ j.toNat))) := oW_ite
theorem b_addS {x y : Tx} {Q : D → Prop} : oW (binD .add s (.str x) (.str y)) Q = ((x.length + y.length ≤ 1000000) ∧ Q (.str (x ++ y))) := oW_ite
theorem b_addT {x y : List D} {Q : D → Prop} : oW (binD .add s (.tup x) (.tup y)) Q = ((x.length + y.length ≤ 1000000 ∧ x ≠ [] ∧ y ≠ []) ∧ Q (.tup (x ++ y))) := oW_ite
theorem b_addL {a b : D} (h : isLs a = true) : binD .add s a b = addLO (asLst s a) (asLst s b) := bin_addL h
theorem addLO_some {xs ys : List D} {Q : D → Prop} : oW (addLO (some xs) (some ys)) Q = (xs.length + ys.length ≤ 1000000 ∧ Q (.olst (xs ++ ys))) := oW_ite
theorem b_mulL {a : D} {k : Int} (h : isLs a = true) : binD .mul s a (.int k) = mulLO (asLst s a) k := bin_mulL h
theorem mulLO_some {xs : List D} {k : Int} {Q : D → Prop} : oW (mulLO (some xs) k) Q = ((0 ≤ k ∧ k ≤ 100000 ∧ xs.length * k.toNat ≤ 1000000) ∧ Q (.olst (List.replicate k.toNat xs).flatten)) := oW_ite
theorem stIO_w {nm : Nm} {xs : List D} {k : Int} {d : D} {N : St → Prop} {P : Ps} : (stIO s nm (some (.olst xs)) k d).w N P = oW (ixN xs.length k) fun j => N (putAt s nm (.olst (xs.set j d))) := by
  unfold stIO
  dsimp only
  cases ixN xs.length k <;> rfl
theorem hF_no (h : isF x = false) : hF T x b P = P := by unfold hF; rw [h]; rfl
theorem hF_calm (h : b.calm T = true) : hF T x b P = P := by unfold hF; rw [h]; simp
def iW (c : Bool) (P Q : Prop) (_u : Bx P := ⟨⟩) (_v : Bx Q := ⟨⟩) : Prop := if c then P else Q
theorem iW_t (P Q : Prop) : iW true P Q = P := (rfl)
theorem iW_f (P Q : Prop) : iW false P Q = Q := (rfl)
theorem iW_by {c : Bool} {P Q : Prop} (h1 : c = true → P) (h2 : c = false → Q) : iW c P Q := by cases c with | true => exact h1 rfl | false => exact h2 rfl
section
variable {F : Fi} {a b c e t o lo hi elt cond : E} {x y : S} {Q : D → St → Prop} {X : XP} {Nn : St → Prop} {Pp : Ps}
theorem wE_chn' {o1 o2 : Co} : wE T F (.chn o1 o2 a b c) s Q X = wE T F a s (fun x s => hF T x b (wE T F b s (fun y s => oW (cmpD o1 s x y) fun r => iW r (iW (isF y) False (wE T F c s (fun z s => oW (cmpD o2 s y z) fun d => Q (.bl d) s) X)) (Q (.bl false) s)) X)) X := wE_chn
theorem wE_and' : wE T F (.and a b) s Q X = wE T F a s (fun d s => bW d fun c => iW c (wE T F b s (fun d s => bW d fun c => Q (.bl c) s) X) (Q (.bl false) s)) X := wE_and
theorem wE_or' : wE T F (.or a b) s Q X = wE T F a s (fun d s => bW d fun c => iW c (Q (.bl true) s) (wE T F b s (fun d s => bW d fun c => Q (.bl c) s) X)) X := wE_or
theorem wE_ife' : wE T F (.ife t a b) s Q X = wE T F t s (fun d s => bW d fun c => iW c (wE T F a s Q X) (wE T F b s Q X)) X := wE_ife
theorem wE_sl' : wE T F (.sl a lo hi) s Q X = wE T F a s (fun x s => iW (isF x && !(lo.calm T && hi.calm T)) False (wO T F lo s (fun l s => wO T F hi s (fun h s => oW (slD s x l h) fun d => Q d s) X) X)) X := wE_sl
theorem wE_call' {f : Nat} : wE T F (.call f a) s Q X = iW (T.fn f).isSome (wA T F a s (fun ds s => (F false f ds s.sto).w (fun d r => Q d { s with sto := r.sto }) (fun c fs r => X c fs { s with sto := r.sto })) X) False := wE_call
theorem wE_mth' {m : Nat} : wE T F (.mth o m a) s Q X = wE T F o s (fun x s => iW (recvOk x) (oW (asObj s x) fun p => oW (T.mth p.1 m) fun f => wA T F a s (fun ds s => (F false f (x :: ds) s.sto).w (fun d r => Q d { s with sto := r.sto }) (fun c fs r => X c fs { s with sto := r.sto })) X) False) X := wE_mth
theorem wE_bm' {b : Bm} : wE T F (.bm b o a) s Q X = wE T F o s (fun x s => iW ((isF x && !a.calm T) || !rk b s x) False (wB T F a s (fun ds s => (bmD b s x ds).w Q X) X)) X := wE_bm
theorem wE_lc' {elt a cond : E} {tg : Tg} {ow : List Nat} {k : Sk} : wE T F (.lc elt tg ow k a cond) s Q X = wB T F a s (fun ds s => oW (srcD k s ds) fun items => oW (hide s (nms ds)) fun p => iW (noOwn p.1.env ow) (match lcL (fun d s => bindT tg d { s with env := wipe s.env ow }) (condB cond (evE T F cond)) (evE T F elt) items [] { p.1 with env := wipe p.1.env ow } with
      | .ok acc s2 => oW (unhide { s2 with env := restore p.1.env s2.env ow } p.2) fun s3 => Q (.olst acc) s3
      | _ => False) False) X := wE_lc
def iO (d : D) (Q : Option Int → Prop) (_u : Bx Q := ⟨⟩) : Prop := match d with
  | .int i => Q (some i)
  | _ => False
theorem iO_int {i : Int} {Q : Option Int → Prop} : iO (.int i) Q = Q (some i) := (rfl)
theorem wO_e {a : E} {Q : Option Int → St → Prop} (h : isNil a = false) : wO T F a s Q X = wE T F a s (fun d s => iO d fun l => Q l s) X := wO_some h
theorem wO_int {i : Int} {Q : Option Int → St → Prop} : wO T F (.int i) s Q X = wE T F (.int i) s (fun d s => iO d fun l => Q l s) X := wO_e rfl
theorem wO_var {i : Nat} {Q : Option Int → St → Prop} : wO T F (.var i) s Q X = wE T F (.var i) s (fun d s => iO d fun l => Q l s) X := wO_e rfl
theorem wO_bin {o : Bo} {a b : E} {Q : Option Int → St → Prop} : wO T F (.bin o a b) s Q X = wE T F (.bin o a b) s (fun d s => iO d fun l => Q l s) X := wO_e rfl
theorem wO_neg {a : E} {Q : Option Int → St → Prop} : wO T F (.neg a) s Q X = wE T F (.neg a) s (fun d s => iO d fun l => Q l s) X := wO_e rfl
theorem wO_ix {a b : E} {Q : Option Int → St → Prop} : wO T F (.ix a b) s Q X = wE T F (.ix a b) s (fun d s => iO d fun l => Q l s) X := wO_e rfl
theorem wO_bi {o : Bi} {a : E} {Q : Option Int → St → Prop} : wO T F (.bi o a) s Q X = wE T F (.bi o a) s (fun d s => iO d fun l => Q l s) X := wO_e rfl
theorem wO_fld {a : E} {f : Nat} {Q : Option Int → St → Prop} : wO T F (.fld a f) s Q X = wE T F (.fld a f) s (fun d s => iO d fun l => Q l s) X := wO_e rfl
theorem wO_call {a : E} {f : Nat} {Q : Option Int → St → Prop} : wO T F (.call f a) s Q X = wE T F (.call f a) s (fun d s => iO d fun l => Q l s) X := wO_e rfl
theorem wO_ife {t a b : E} {Q : Option Int → St → Prop} : wO T F (.ife t a b) s Q X = wE T F (.ife t a b) s (fun d s => iO d fun l => Q l s) X := wO_e rfl
theorem wS_tryN {b h : S} {c i : Nat} : wS T F (.tryS b c (some i) h) s Nn Pp = wS T F b s Nn ⟨Pp.brk, Pp.cnt, Pp.ret, fun c' fs s => iW (T.sub c' c) (wS T F h { s with env := s.env.set i (some (.exc c' fs)) } (fun s => Nn { s with env := s.env.set i none }) ⟨fun s => Pp.brk { s with env := s.env.set i none }, fun s => Pp.cnt { s with env := s.env.set i none }, Pp.ret, fun _ _ _ => False⟩) (Pp.exc c' fs s)⟩ := by
  unfold wS
  rw [evS]
  cases evS T F b s with
  | exc c' fs s' =>
    show Fl.w (if T.sub c' c = true then suiteN i (evS T F h { s' with env := s'.env.set i (some (.exc c' fs)) }) else .exc c' fs s') Nn Pp = iW (T.sub c' c) (Fl.w (evS T F h { s' with env := s'.env.set i (some (.exc c' fs)) }) _ _) (Pp.exc c' fs s')
    cases T.sub c' c with
    | false => rfl
    | true =>
      show Fl.w (suiteN i (evS T F h { s' with env := s'.env.set i (some (.exc c' fs)) })) Nn Pp = Fl.w (evS T F h { s' with env := s'.env.set i (some (.exc c' fs)) }) _ _
      cases evS T F h { s' with env := s'.env.set i (some (.exc c' fs)) } <;> rfl
  | _ => rfl
theorem wS_try0 {b h : S} {c : Nat} : wS T F (.tryS b c none h) s Nn Pp = wS T F b s Nn ⟨Pp.brk, Pp.cnt, Pp.ret, fun c' fs s => iW (T.sub c' c) (wS T F h s Nn ⟨Pp.brk, Pp.cnt, Pp.ret, fun _ _ _ => False⟩) (Pp.exc c' fs s)⟩ := by
  unfold wS
  rw [evS]
  cases evS T F b s with
  | exc c' fs s' =>
    show Fl.w (if T.sub c' c = true then suite0 (evS T F h s') else .exc c' fs s') Nn Pp = iW (T.sub c' c) (Fl.w (evS T F h s') _ _) (Pp.exc c' fs s')
    cases T.sub c' c with
    | false => rfl
    | true =>
      show Fl.w (suite0 (evS T F h s')) Nn Pp = Fl.w (evS T F h s') _ _
      cases evS T F h s' <;> rfl
  | _ => rfl
theorem wS_ifs' : wS T F (.ifs t x y) s Nn Pp = wE T F t s (fun d s => bW d fun c => iW c (wS T F x s Nn Pp) (wS T F y s Nn Pp)) Pp.exc := wS_ifs
end
def inO (s : St) (x : D) (o : Option D) : Option Bool := match o with
  | some (.str z) => (match x with
    | .str [n] => some (z.contains n)
    | _ => none)
  | some (.dct kvs) => (match x with
    | .str z => some ((kvs.map (·.1)).contains z)
    | _ => none)
  | some (.odct kvs) => (match x with
    | .str z => some ((kvs.map (·.1)).contains z)
    | _ => none)
  | o => match seqO o with
    | some ds => if flat x && ds.all flat then some (ds.any fun y => eqv 1 y x) else none
    | none => none
theorem inD_eq {x c : D} : inD s x c = inO s x (cont s c) := by
  unfold inD inO
  rw [asSeq_eq]
  cases cont s c with
  | none => rfl
  | some y => cases y <;> rfl
theorem inO_str {z : Tx} {n : Nat} : inO s (.str [n]) (some (.str z)) = some (z.contains n) := (rfl)
theorem inO_dct {z : Tx} {ks : List (Tx × D)} : inO s (.str z) (some (.dct ks)) = some ((ks.map (·.1)).contains z) := (rfl)
theorem inO_odct {z : Tx} {ks : List (Tx × D)} : inO s (.str z) (some (.odct ks)) = some ((ks.map (·.1)).contains z) := (rfl)
theorem inO_tup {x : D} {ds : List D} {Q : Bool → Prop} : oW (inO s x (some (.tup ds))) Q = ((flat x && ds.all flat) = true ∧ Q (ds.any fun y => eqv 1 y x)) := oW_ite
theorem inO_lst {x : D} {ds : List D} {Q : Bool → Prop} : oW (inO s x (some (.lst ds))) Q = ((flat x && ds.all flat) = true ∧ Q (ds.any fun y => eqv 1 y x)) := oW_ite
theorem inO_olst {x : D} {ds : List D} {Q : Bool → Prop} : oW (inO s x (some (.olst ds))) Q = ((flat x && ds.all flat) = true ∧ Q (ds.any fun y => eqv 1 y x)) := oW_ite
theorem eqv_int {n : Nat} {i j : Int} : eqv (n + 1) (.int i) (.int j) = (i == j) := (rfl)
theorem eqv_str {n : Nat} {i j : Tx} : eqv (n + 1) (.str i) (.str j) = (i == j) := (rfl)
theorem eqv_bl {n : Nat} {i j : Bool} : eqv (n + 1) (.bl i) (.bl j) = (i == j) := (rfl)
theorem eqv_non {n : Nat} : eqv (n + 1) .non .non = true := (rfl)
theorem eqv_nonint {n : Nat} {i : Int} : eqv (n + 1) .non (.int i) = false := (rfl)
theorem eqv_intnon {n : Nat} {i : Int} : eqv (n + 1) (.int i) .non = false := (rfl)
theorem eqv_nonstr {n : Nat} {i : Tx} : eqv (n + 1) .non (.str i) = false := (rfl)
theorem eqv_strnon {n : Nat} {i : Tx} : eqv (n + 1) (.str i) .non = false := (rfl)
theorem eqv_strint {n : Nat} {i : Tx} {j : Int} : eqv (n + 1) (.str i) (.int j) = false := (rfl)
theorem eqv_intstr {n : Nat} {i : Tx} {j : Int} : eqv (n + 1) (.int j) (.str i) = false := (rfl)
theorem eqv_tup {n : Nat} {a b : List D} : eqv (n + 1) (.tup a) (.tup b) = all2 (eqv n) a b := (rfl)
theorem eqv_lst {n : Nat} {a b : List D} : eqv (n + 1) (.lst a) (.lst b) = all2 (eqv n) a b := (rfl)
theorem at_lt {α : Type} {xs : List α} {i : Nat} (h : i < xs.length) : atI xs (i : Int) = some xs[i] := by
  unfold atI ixN
  rw [if_pos (by omega), if_pos (by omega)]
  simp [h]
theorem at_ex {α : Type} {xs : List α} {i : Int} (h : 0 ≤ i) (h2 : i < xs.length) : ∃ c, atI xs i = some c ∧ xs[i.toNat]? = some c := by
  obtain ⟨n, rfl⟩ := Int.eq_ofNat_of_zero_le h
  have h3 : n < xs.length := by omega
  exact ⟨xs[n], at_lt h3, by simp [h3]⟩
theorem atI_0 {α : Type} {x0 : α} {r : List α} : atI (x0 :: r) 0 = some x0 := by
  unfold atI ixN
  rw [if_pos (by decide), if_pos (by simp only [List.length_cons]; omega)]
  rfl
theorem ixN_0 {k : Nat} : ixN (k + 1) 0 = some 0 := by
  unfold ixN
  rw [if_pos (by decide), if_pos (by omega)]
  rfl
theorem atI_1 {α : Type} {x0 x1 : α} {r : List α} : atI (x0 :: x1 :: r) 1 = some x1 := by
  unfold atI ixN
  rw [if_pos (by decide), if_pos (by simp only [List.length_cons]; omega)]
  rfl
theorem ixN_1 {k : Nat} : ixN (k + 2) 1 = some 1 := by
  unfold ixN
  rw [if_pos (by decide), if_pos (by omega)]
  rfl
theorem atI_2 {α : Type} {x0 x1 x2 : α} {r : List α} : atI (x0 :: x1 :: x2 :: r) 2 = some x2 := by
  unfold atI ixN
  rw [if_pos (by decide), if_pos (by simp only [List.length_cons]; omega)]
  rfl
theorem ixN_2 {k : Nat} : ixN (k + 3) 2 = some 2 := by
  unfold ixN
  rw [if_pos (by decide), if_pos (by omega)]
  rfl
theorem atI_3 {α : Type} {x0 x1 x2 x3 : α} {r : List α} : atI (x0 :: x1 :: x2 :: x3 :: r) 3 = some x3 := by
  unfold atI ixN
  rw [if_pos (by decide), if_pos (by simp only [List.length_cons]; omega)]
  rfl
theorem ixN_3 {k : Nat} : ixN (k + 4) 3 = some 3 := by
  unfold ixN
  rw [if_pos (by decide), if_pos (by omega)]
  rfl
theorem atI_4 {α : Type} {x0 x1 x2 x3 x4 : α} {r : List α} : atI (x0 :: x1 :: x2 :: x3 :: x4 :: r) 4 = some x4 := by
  unfold atI ixN
  rw [if_pos (by decide), if_pos (by simp only [List.length_cons]; omega)]
  rfl
theorem ixN_4 {k : Nat} : ixN (k + 5) 4 = some 4 := by
  unfold ixN
  rw [if_pos (by decide), if_pos (by omega)]
  rfl
theorem atI_5 {α : Type} {x0 x1 x2 x3 x4 x5 : α} {r : List α} : atI (x0 :: x1 :: x2 :: x3 :: x4 :: x5 :: r) 5 = some x5 := by
  unfold atI ixN
  rw [if_pos (by decide), if_pos (by simp only [List.length_cons]; omega)]
  rfl
theorem ixN_5 {k : Nat} : ixN (k + 6) 5 = some 5 := by
  unfold ixN
  rw [if_pos (by decide), if_pos (by omega)]
  rfl
theorem atI_6 {α : Type} {x0 x1 x2 x3 x4 x5 x6 : α} {r : List α} : atI (x0 :: x1 :: x2 :: x3 :: x4 :: x5 :: x6 :: r) 6 = some x6 := by
  unfold atI ixN
  rw [if_pos (by decide), if_pos (by simp only [List.length_cons]; omega)]
  rfl
theorem ixN_6 {k : Nat} : ixN (k + 7) 6 = some 6 := by
  unfold ixN
  rw [if_pos (by decide), if_pos (by omega)]
  rfl
theorem atI_7 {α : Type} {x0 x1 x2 x3 x4 x5 x6 x7 : α} {r : List α} : atI (x0 :: x1 :: x2 :: x3 :: x4 :: x5 :: x6 :: x7 :: r) 7 = some x7 := by
  unfold atI ixN
  rw [if_pos (by decide), if_pos (by simp only [List.length_cons]; omega)]
  rfl
theorem ixN_7 {k : Nat} : ixN (k + 8) 7 = some 7 := by
  unfold ixN
  rw [if_pos (by decide), if_pos (by omega)]
  rfl
def slotFree (o : Option (Option D)) : Bool := match o.join with
  | some d => !owned d
  | none => true
theorem noOwn_nil {env : List (Option D)} : noOwn env [] = true := (rfl)
theorem noOwn_cons {env : List (Option D)} {v : Nat} {vs : List Nat} : noOwn env (v :: vs) = (slotFree env[v]? && noOwn env vs) := (rfl)
theorem slotFree_none : slotFree (some none) = true := (rfl)
theorem slotFree_some {d : D} : slotFree (some (some d)) = !owned d := (rfl)
theorem wipe_nil {env : List (Option D)} : wipe env [] = env := (rfl)
theorem wipe_cons {env : List (Option D)} {v : Nat} {vs : List Nat} : wipe env (v :: vs) = (wipe env vs).set v none := (rfl)
theorem restore_nil {env0 env : List (Option D)} : restore env0 env [] = env := (rfl)
theorem restore_cons {env0 env : List (Option D)} {v : Nat} {vs : List Nat} : restore env0 env (v :: vs) = (restore env0 env vs).set v (env0[v]?.join) := (rfl)
theorem join_some {o : Option D} : (some o).join = o := (rfl)
def lcW (r : R (List D)) (K : List D → St → Prop) (_u : Bx K := ⟨⟩) : Prop := match r with
  | .ok acc s => K acc s
  | _ => False
theorem wE_lcW {F : Fi} {elt a cond : E} {tg : Tg} {ow : List Nat} {k : Sk} {Q : D → St → Prop} {X : XP} : wE T F (.lc elt tg ow k a cond) s Q X = wB T F a s (fun ds s => oW (srcD k s ds) fun items => oW (hide s (nms ds)) fun p => iW (noOwn p.1.env ow) (lcW (lcL (fun d s => bindT tg d { s with env := wipe s.env ow }) (condB cond (evE T F cond)) (evE T F elt) items [] { p.1 with env := wipe p.1.env ow }) fun acc s2 => oW (unhide { s2 with env := restore p.1.env s2.env ow } p.2) fun s3 => Q (.olst acc) s3) False) X := wE_lc
theorem lcW_w {bind : D → St → Option St} {cond : St → R Bool} {elt : St → R D} {K : List D → St → Prop} (items : List D) (I : Nat → List D → St → Prop) (hend : ∀ acc s, I items.length acc s → K acc s)
    (step : ∀ i d acc s, items[i]? = some d → I i acc s → oW (bind d s) fun s => (cond s).w (fun b s => iW b ((elt s).w (fun x s => (esc s x).w (fun x s => acc.length < lim ∧ I (i + 1) (acc ++ [x]) s) fun _ _ _ => False) (fun _ _ _ => False)) (I (i + 1) acc s)) fun _ _ _ => False) {s : St} (h0 : I 0 [] s) :
    lcW (lcL bind cond elt items [] s) K := lcL_w (Z := True) (K := fun r => lcW r K) items I hend step h0
theorem evS_w {F : Fi} {x : S} {N : St → Prop} {P : Ps} : (evS T F x s).w N P = wS T F x s N P := by unfold wS; rfl
theorem evE_w {F : Fi} {x : E} {Q : D → St → Prop} {X : XP} : (evE T F x s).w Q X = wE T F x s Q X := by unfold wE; rfl
theorem condBn {k : St → R D} {Q : Bool → St → Prop} {X : XP} : (condB .nil k s).w Q X = Q true s := (rfl)
theorem condB_w {F : Fi} {x : E} {Q : Bool → St → Prop} {X : XP} (h : isNil x = false) : (condB x (evE T F x) s).w Q X = wE T F x s (fun d s => bW d fun b => Q b s) X := by
  have e : condB x (evE T F x) s = asB (evE T F x s) := by cases x <;> first | rfl | cases h
  rw [e, asB_w', evE_w]
def fpO (o : Option D) (s : St) (nm : Nm) (f : Nat) (d : D) (N : St → Prop) (_u : Bx N := ⟨⟩) : Prop := match o with
  | some (.oobj c fs) => fs.length < 100 ∧ N (putAt s nm (.oobj c (fput f d fs)))
  | _ => False
theorem fldPut_w {nm : Nm} {f : Nat} {d : D} {N : St → Prop} {P : Ps} : (fldPut s nm f d).w N P = fpO (own s nm) s nm f d N := by
  unfold fldPut fpO
  cases own s nm with
  | none => rfl
  | some x =>
    cases x <;> try rfl
    rename_i c fs
    show Fl.w (if fs.length < 100 then _ else _) N P = _
    by_cases h : fs.length < 100
    · rw [if_pos h]
      exact propext ⟨fun q => ⟨h, q⟩, fun q => q.2⟩
    · rw [if_neg h]
      exact propext ⟨fun q => q.elim, fun q => h q.1⟩
theorem fpO_oobj {c : Nat} {fs : List (Nat × D)} {nm : Nm} {f : Nat} {d : D} {N : St → Prop} : fpO (some (.oobj c fs)) s nm f d N = (fs.length < 100 ∧ N (putAt s nm (.oobj c (fput f d fs)))) := (rfl)
theorem fput_nil {f : Nat} {d : D} : fput f d [] = [(f, d)] := (rfl)
theorem fput_cons {f g : Nat} {d e : D} {r : List (Nat × D)} : fput f d ((g, e) :: r) = if g = f then (g, d) :: r else (g, e) :: fput f d r := (rfl)
theorem setF_sref {i f : Nat} {d : D} {N : St → Prop} {P : Ps} : (setFldD s (.sref i) f d).w N P = (esc s d).w (fun d s => (fldPut s (.slot i) f d).w N P) P.exc := fl_w _ _ _ _
theorem setF_loc_t {i f : Nat} {d : D} {N : St → Prop} {P : Ps} (h : ldt d = true) : (setFldD s (.loc i) f d).w N P = (fldPut s (.cell i) f d).w N P := by
  unfold setFldD
  dsimp only
  rw [if_pos h]
theorem setF_loc_f {i f : Nat} {d : D} {N : St → Prop} {P : Ps} (h : ldt d = false) : (setFldD s (.loc i) f d).w N P = (esc s d).w (fun d s => (fldPut s (.cell i) f d).w N P) P.exc := by
  unfold setFldD
  dsimp only
  rw [if_neg (by rw [h]; exact Bool.noConfusion)]
  exact fl_w _ _ _ _
theorem bind_one {i : Nat} {d : D} {Q : St → Prop} : oW (bindT (.one i) d s) Q = (keepOk d = true ∧ Q { s with env := s.env.set i (some d) }) := oW_ite
theorem bind_many {is : List Nat} {ds : List D} {Q : St → Prop} : oW (bindT (.many is) (.tup ds) s) Q = (ds.length = is.length ∧ Q { s with env := setAll s.env is ds }) := oW_ite
theorem setAll_nil {env : List (Option D)} {ds : List D} : setAll env [] ds = env := by cases ds <;> rfl
theorem setAll_cons {env : List (Option D)} {i : Nat} {is : List Nat} {d : D} {ds : List D} : setAll env (i :: is) (d :: ds) = setAll (env.set i (some d)) is ds := (rfl)
theorem cmp_lt {i j : Int} : cmpD .lt s (.int i) (.int j) = some (decide (i < j)) := (rfl)
theorem cmp_le {i j : Int} : cmpD .le s (.int i) (.int j) = some (decide (i ≤ j)) := (rfl)
theorem cmp_gt {i j : Int} : cmpD .gt s (.int i) (.int j) = some (decide (j < i)) := (rfl)
theorem cmp_ge {i j : Int} : cmpD .ge s (.int i) (.int j) = some (decide (j ≤ i)) := (rfl)
theorem cmp_eq {a b : D} : cmpD .eq s a b = eqD s a b := (rfl)
theorem cmp_ne {a b : D} : cmpD .ne s a b = (eqD s a b).map (!·) := (rfl)
theorem cmp_in {a b : D} : cmpD .inn s a b = inD s a b := (rfl)
theorem cmp_nin {a b : D} : cmpD .nin s a b = (inD s a b).map (!·) := (rfl)
def eqO2 (o p : Option D) : Option Bool := match o, p with
  | some x, some y => if dat 20 x && dat 20 y then some (eqv 20 x y) else none
  | _, _ => none
theorem eqD_eq {a b : D} : eqD s a b = eqO2 (dataO (cont s a)) (dataO (cont s b)) := (rfl)
theorem eqO2_int {i j : Int} : eqO2 (some (.int i)) (some (.int j)) = some (decide (i = j)) := by unfold eqO2; simp [dat, eqv]; rfl
theorem eqO2_str {i j : Tx} : eqO2 (some (.str i)) (some (.str j)) = some (decide (i = j)) := by
  unfold eqO2
  simp only [dat, eqv, Bool.and_self, if_true, Option.some.injEq]
  rw [Bool.eq_iff_iff]
  simp
theorem eqO2_bl {i j : Bool} : eqO2 (some (.bl i)) (some (.bl j)) = some (i == j) := by unfold eqO2; simp [dat, eqv]
end
end TR
end

section
set_option Elab.async false
set_option linter.all false
set_option maxRecDepth 100000
set_option autoImplicit false
/-! TrPlain: lists, texts and numbers as the laws use them (plain Lean). -/
namespace TR
theorem rng_get {lo hi : Int} {i : Nat} {d : D} (h : (rng lo hi)[i]? = some d) : d = .int (lo + i) ∧ (i : Int) < hi - lo := by
  unfold rng at h
  rw [List.getElem?_map, Option.map_eq_some_iff] at h
  obtain ⟨k, h1, rfl⟩ := h
  obtain ⟨h2, h3⟩ := List.getElem?_eq_some_iff.mp h1
  rw [List.getElem_range] at h3
  subst h3
  rw [List.length_range] at h2
  exact ⟨rfl, by omega⟩
theorem rng_len {lo hi : Int} : (rng lo hi).length = (hi - lo).toNat := by
  unfold rng
  rw [List.length_map, List.length_range]
theorem map_get {α : Type} {f : α → D} {xs : List α} {i : Nat} {d : D} (h : (xs.map f)[i]? = some d) : ∃ x, xs[i]? = some x ∧ d = f x := by
  rw [List.getElem?_map, Option.map_eq_some_iff] at h
  obtain ⟨x, h1, h2⟩ := h
  exact ⟨x, h1, h2.symm⟩
theorem atI_map {α β : Type} {f : α → β} {xs : List α} {i : Int} : atI (xs.map f) i = (atI xs i).map f := by
  unfold atI
  rw [List.length_map]
  cases ixN xs.length i with
  | none => rfl
  | some j => simp
theorem ixN_last {n : Nat} (h : 0 < n) : ixN n (-1) = some (n - 1) := by
  unfold ixN
  rw [if_neg (by omega), if_pos (by omega)]
  congr 1
  omega
theorem atI_last {α : Type} {xs : List α} {x : α} : atI (xs ++ [x]) (-1) = some x := by
  unfold atI
  rw [ixN_last (by simp)]
  simp
theorem set_last {α : Type} {xs : List α} {x y : α} : (xs ++ [x]).set xs.length y = xs ++ [y] := by
  simp
theorem all2_str : ∀ {n : Nat} {xs ys : List Tx}, all2 (eqv (n + 1)) (xs.map D.str) (ys.map D.str) = decide (xs = ys)
  | n, [], [] => by simp [all2]
  | n, [], _ :: _ => by simp [all2]
  | n, _ :: _, [] => by simp [all2]
  | n, x :: xs, y :: ys => by
    rw [List.map_cons, List.map_cons, all2, eqv_str, all2_str, Bool.eq_iff_iff]
    simp
theorem all2_int : ∀ {n : Nat} {xs ys : List Int}, all2 (eqv (n + 1)) (xs.map D.int) (ys.map D.int) = decide (xs = ys)
  | n, [], [] => by simp [all2]
  | n, [], _ :: _ => by simp [all2]
  | n, _ :: _, [] => by simp [all2]
  | n, x :: xs, y :: ys => by
    rw [List.map_cons, List.map_cons, all2, eqv_int, all2_int, Bool.eq_iff_iff]
    simp
theorem dat_strs {n : Nat} {xs : List Tx} : dat (n + 2) (.lst (xs.map D.str)) = true := by
  simp [dat]
theorem dat_ints {n : Nat} {xs : List Int} : dat (n + 2) (.lst (xs.map D.int)) = true := by
  simp [dat]
theorem eqO2_strs {xs ys : List Tx} : eqO2 (some (.lst (xs.map D.str))) (some (.lst (ys.map D.str))) = some (decide (xs = ys)) := by
  unfold eqO2
  dsimp only
  rw [dat_strs, dat_strs, eqv_lst, all2_str]
  rfl
theorem eqO2_ints {xs ys : List Int} : eqO2 (some (.lst (xs.map D.int))) (some (.lst (ys.map D.int))) = some (decide (xs = ys)) := by
  unfold eqO2
  dsimp only
  rw [dat_ints, dat_ints, eqv_lst, all2_int]
  rfl
theorem strsD_map : ∀ {xs : List Tx}, strsD (xs.map D.str) = some xs
  | [] => rfl
  | x :: xs => by
    rw [List.map_cons, strsD, strsD_map]
    rfl
theorem intsD_map : ∀ {xs : List Int}, intsD (xs.map D.int) = some xs
  | [] => rfl
  | x :: xs => by
    rw [List.map_cons, intsD, intsD_map]
    rfl
/-! ### numbers as texts -/
theorem showI_nat (n : Nat) : showI (n : Int) = (Nat.toDigits 10 n).map Char.toNat := by
  unfold showI
  show (Nat.repr n).toList.map Char.toNat = _
  rw [Nat.toList_repr]
theorem isDigit_range {ch : Char} (h : ch.isDigit = true) : 48 ≤ ch.toNat ∧ ch.toNat ≤ 57 := by
  unfold Char.isDigit at h
  rw [Bool.and_eq_true, decide_eq_true_eq, decide_eq_true_eq] at h
  exact ⟨UInt32.le_iff_toNat_le.mp h.1, UInt32.le_iff_toNat_le.mp h.2⟩
theorem showI_dig {n : Nat} {c : Nat} (h : c ∈ showI (n : Int)) : 48 ≤ c ∧ c ≤ 57 := by
  rw [showI_nat] at h
  obtain ⟨ch, hch, rfl⟩ := List.mem_map.mp h
  exact isDigit_range (Nat.isDigit_of_mem_toDigits (by decide) (by decide) hch)
def valD (z : Tx) : Nat := z.foldl (fun v c => v * 10 + (c - 48)) 0
theorem valD_snoc (z : Tx) (c : Nat) : valD (z ++ [c]) = valD z * 10 + (c - 48) := by
  unfold valD
  rw [List.foldl_append]
  rfl
theorem digitChar_back (d : Nat) (h : d < 10) : (Nat.digitChar d).toNat - 48 = d := by
  have : ∀ d : Fin 10, (Nat.digitChar d.val).toNat - 48 = d.val := by decide
  exact this ⟨d, h⟩
theorem valD_digits (m : Nat) : valD ((Nat.toDigits 10 m).map Char.toNat) = m := by
  induction m using Nat.strongRecOn with
  | ind m ih =>
    by_cases h : m < 10
    · rw [Nat.toDigits_of_lt_base h]
      show (0 * 10 + ((Nat.digitChar m).toNat - 48)) = m
      rw [digitChar_back m h]
      omega
    · have hm : m % 10 < 10 := Nat.mod_lt _ (by decide)
      have t : Nat.toDigits 10 (m / 10) ++ Nat.toDigits 10 (m % 10) = Nat.toDigits 10 (10 * (m / 10) + m % 10) := Nat.toDigits_append_toDigits (by decide) (by omega) hm
      rw [Nat.div_add_mod] at t
      rw [← t, List.map_append, Nat.toDigits_of_lt_base hm]
      show valD ((Nat.toDigits 10 (m / 10)).map Char.toNat ++ [(Nat.digitChar (m % 10)).toNat]) = m
      rw [valD_snoc, ih (m / 10) (by omega), digitChar_back (m % 10) hm]
      omega
theorem digits_len : ∀ (k m : Nat), 0 < k → m < 10 ^ k → (Nat.toDigits 10 m).length ≤ k
  | 0, m, h, _ => absurd h (Nat.lt_irrefl _)
  | 1, m, _, h => by
    rw [Nat.toDigits_of_lt_base (by omega)]
    exact Nat.le_refl _
  | k + 2, m, _, h => by
    by_cases h1 : m < 10
    · rw [Nat.toDigits_of_lt_base h1]
      show 1 ≤ k + 2
      omega
    · have hm : m % 10 < 10 := Nat.mod_lt _ (by decide)
      have t : Nat.toDigits 10 (m / 10) ++ Nat.toDigits 10 (m % 10) = Nat.toDigits 10 (10 * (m / 10) + m % 10) := Nat.toDigits_append_toDigits (by decide) (by omega) hm
      rw [Nat.div_add_mod] at t
      rw [← t, List.length_append, Nat.toDigits_of_lt_base hm]
      have := digits_len (k + 1) (m / 10) (by omega) (by
        have e : 10 ^ (k + 2) = 10 ^ (k + 1) * 10 := by rw [Nat.pow_succ]
        omega)
      show (Nat.toDigits 10 (m / 10)).length + 1 ≤ k + 2
      omega
theorem showI_len {n : Nat} (h : n < 10000000000) : (showI (n : Int)).length ≤ 10 := by
  rw [showI_nat, List.length_map]
  exact digits_len 10 n (by decide) h
theorem showI_ne {n : Nat} : showI (n : Int) ≠ [] := by
  rw [showI_nat]
  intro h
  have h2 := List.map_eq_nil_iff.mp h
  by_cases h3 : n < 10
  · rw [Nat.toDigits_of_lt_base h3] at h2
    cases h2
  · have hm : n % 10 < 10 := Nat.mod_lt _ (by decide)
    have t : Nat.toDigits 10 (n / 10) ++ Nat.toDigits 10 (n % 10) = Nat.toDigits 10 (10 * (n / 10) + n % 10) := Nat.toDigits_append_toDigits (by decide) (by omega) hm
    rw [Nat.div_add_mod, h2, Nat.toDigits_of_lt_base hm] at t
    simp at t
theorem readI_showI {n : Nat} (h : n < 10000000000) : readI (showI (n : Int)) = some (n : Int) := by
  unfold readI
  have l := showI_len h
  rw [if_pos ⟨showI_ne, by omega, List.all_eq_true.mpr fun c hc => by
    have := showI_dig hc
    simp only [Bool.and_eq_true, decide_eq_true_eq]
    exact this⟩]
  have e : (showI (n : Int)).foldl (fun v c => v * 10 + (c - 48)) 0 = n := by
    have := valD_digits n
    rw [← showI_nat] at this
    exact this
  rw [e]
/-! ### texts -/
theorem splitOn_no {c : Nat} : ∀ {z : Tx}, c ∉ z → splitOn c z = [z]
  | [], _ => rfl
  | a :: r, h => by
    have h1 : a ≠ c := fun e => h (by rw [e]; exact List.mem_cons_self)
    rw [splitOn, if_neg h1, splitOn_no fun q => h (List.mem_cons_of_mem _ q)]
theorem splitOn_app {c : Nat} : ∀ {w z : Tx}, c ∉ w → splitOn c (w ++ c :: z) = w :: splitOn c z
  | [], z, _ => by
    rw [List.nil_append, splitOn, if_pos rfl]
  | a :: r, z, h => by
    have h1 : a ≠ c := fun e => h (by rw [e]; exact List.mem_cons_self)
    rw [List.cons_append, splitOn, if_neg h1, splitOn_app fun q => h (List.mem_cons_of_mem _ q)]
theorem splitOn_join {c : Nat} : ∀ {ws : List Tx}, ws ≠ [] → (∀ w ∈ ws, c ∉ w) → splitOn c (joinT [c] ws) = ws
  | [], h, _ => absurd rfl h
  | [w], _, h => splitOn_no (h w List.mem_cons_self)
  | w :: q :: t, _, h => by
    have e : joinT [c] (w :: q :: t) = w ++ c :: joinT [c] (q :: t) := by
      show w ++ [c] ++ joinT [c] (q :: t) = _
      simp
    rw [e, splitOn_app (h w List.mem_cons_self), splitOn_join (by simp) fun v hv => h v (List.mem_cons_of_mem _ hv)]
theorem split2_no {a b : Nat} : ∀ {z : Tx}, a ∉ z → split2 a b z = [z]
  | [], _ => rfl
  | [c], _ => rfl
  | c :: d :: r, h => by
    have h1 : c ≠ a := fun e => h (by rw [e]; exact List.mem_cons_self)
    rw [split2, if_neg fun q => h1 q.1, split2_no fun q => h (List.mem_cons_of_mem _ q)]
theorem split2_app {a b : Nat} : ∀ {w z : Tx}, a ∉ w → split2 a b (w ++ a :: b :: z) = w :: split2 a b z
  | [], z, _ => by
    rw [List.nil_append, split2, if_pos ⟨rfl, rfl⟩]
  | [c], z, h => by
    have h1 : c ≠ a := fun e => h (by rw [e]; exact List.mem_cons_self)
    rw [List.cons_append, List.nil_append, split2, if_neg fun q => h1 q.1, split2, if_pos ⟨rfl, rfl⟩]
  | c :: d :: r, z, h => by
    have h1 : c ≠ a := fun e => h (by rw [e]; exact List.mem_cons_self)
    have ih := split2_app (b := b) (w := d :: r) (z := z) fun q => h (List.mem_cons_of_mem _ q)
    rw [List.cons_append] at ih
    rw [List.cons_append, List.cons_append, split2, if_neg fun q => h1 q.1, ih]
theorem split2_join {a b : Nat} : ∀ {ws : List Tx}, ws ≠ [] → (∀ w ∈ ws, a ∉ w) → split2 a b (joinT [a, b] ws) = ws
  | [], h, _ => absurd rfl h
  | [w], _, h => split2_no (h w List.mem_cons_self)
  | w :: q :: t, _, h => by
    have e : joinT [a, b] (w :: q :: t) = w ++ a :: b :: joinT [a, b] (q :: t) := by
      show w ++ [a, b] ++ joinT [a, b] (q :: t) = _
      simp
    rw [e, split2_app (h w List.mem_cons_self), split2_join (by simp) fun v hv => h v (List.mem_cons_of_mem _ hv)]
theorem joinT_len_le (sep : Tx) {m : Nat} : ∀ ws : List Tx, (∀ w ∈ ws, w.length ≤ m) → (joinT sep ws).length ≤ ws.length * (m + sep.length)
  | [], _ => by simp [joinT]
  | [w], h => by
    have := h w List.mem_cons_self
    show w.length ≤ 1 * (m + sep.length)
    omega
  | w :: q :: t, h => by
    have ih := joinT_len_le sep (q :: t) fun v hv => h v (List.mem_cons_of_mem _ hv)
    have hw := h w List.mem_cons_self
    have e : joinT sep (w :: q :: t) = w ++ sep ++ joinT sep (q :: t) := rfl
    rw [e, List.length_append, List.length_append, List.length_cons (a := w), Nat.add_mul (List.length (q :: t)) 1]
    omega
/-! ### new objects -/
theorem fn_ini {T : Tb} {k f : Nat} {fd : Fn} {ds sto : List D} {r : R D} (h : T.fn f = some fd) (hl : ds.length = fd.np)
    (w : wS T (evFn T k) fd.body ⟨ds.map some ++ List.replicate (fd.nl - fd.np) none, List.replicate sto.length .dead⟩ (fun s => ∃ c fs fs', (s.env[0]?).join = some (.oobj c fs) ∧ fs.mapM (fun p : Nat × D => (deep s.sto sto.length 40 p.2).map fun d => (p.1, d)) = some fs' ∧ r = .ok (.oobj c fs') ⟨[], sto⟩) ⟨fun _ => False, fun _ => False, fun _ _ => False, fun _ _ _ => False⟩) : evFn T (k + 1) true f ds sto = r := by
  show (match T.fn f with
    | none => R.stuck
    | some fd => if ds.length = fd.np then fin fd.gc true sto (evS T (evFn T k) fd.body ⟨ds.map some ++ List.replicate (fd.nl - fd.np) none, seen (true || fd.gc) sto⟩) else .stuck) = r
  rw [h]
  dsimp only
  rw [if_pos hl]
  unfold wS at w
  show fin fd.gc true sto (evS T (evFn T k) fd.body ⟨ds.map some ++ List.replicate (fd.nl - fd.np) none, List.replicate sto.length .dead⟩) = r
  cases e : evS T (evFn T k) fd.body ⟨ds.map some ++ List.replicate (fd.nl - fd.np) none, List.replicate sto.length .dead⟩ with
  | nx s =>
    rw [e] at w
    obtain ⟨c, fs, fs', e1, e2, e3⟩ := w
    show finD fd.gc true sto .non s = r
    unfold finD
    dsimp only
    rw [e1]
    dsimp only
    rw [e2, e3]
  | brk s => rw [e] at w; exact w.elim
  | cnt s => rw [e] at w; exact w.elim
  | ret d s => rw [e] at w; exact w.elim
  | exc c fs s => rw [e] at w; exact w.elim
  | stuck => rw [e] at w; exact w.elim
end TR
end

section
set_option linter.all false
/-! TrProg: the terms of the program's functions (printed by gen.py). -/
namespace TR
/-- ['colours', 'runs', 'colour', 'many'] -/
def p_tint_of : Fn := ⟨1, 4, false, (.seq (.asg 1 (.lst .nil)) (.seq (.fors (.one 2) .it (.cons (.var 0) .nil) (.seq (.ifs (.and (.cmp .gt (.bi .len (.cons (.var 1) .nil)) (.int 0)) (.cmp .eq (.ix (.ix (.var 1) (.neg (.int 1))) (.int 1)) (.var 2))) (.seq (.setIx (.var 1) (.neg (.int 1)) (.tup (.cons (.bin .add (.ix (.ix (.var 1) (.neg (.int 1))) (.int 0)) (.int 1)) (.cons (.var 2) .nil)))) .skip) (.seq (.expr (.bm .append (.var 1) (.cons (.tup (.cons (.int 1) (.cons (.var 2) .nil))) .nil))) .skip)) .skip)) (.seq (.ret (.bm .join (.str [44, 32]) (.cons (.lc (.bin .add (.bin .add (.bi .str (.cons (.var 3) .nil)) (.str [32])) (.var 2)) (.many [3, 2]) [3, 2] .it (.cons (.var 1) .nil) .nil) .nil))) .skip)))⟩
/-- ['text', 'colours', 'run', 'parts'] -/
def p_read_tint : Fn := ⟨1, 4, false, (.seq (.asg 1 (.lst .nil)) (.seq (.fors (.one 2) .it (.cons (.ife (.cmp .ne (.var 0) (.str [])) (.bm .split (.var 0) (.cons (.str [44, 32]) .nil)) (.lst .nil)) .nil) (.seq (.asg 3 (.bm .split (.var 2) (.cons (.str [32]) .nil))) (.seq (.asg 1 (.bin .add (.var 1) (.bin .mul (.lst (.cons (.ix (.var 3) (.int 1)) .nil)) (.bi .int (.cons (.ix (.var 3) (.int 0)) .nil))))) .skip))) (.seq (.ret (.var 1)) .skip)))⟩
/-- ['rows_marks', 'found', 'waiting', 'row', 'marks', 'place', 'kind', 'number'] -/
def p_folds : Fn := ⟨1, 8, false, (.seq (.asg 1 (.lst .nil)) (.seq (.asg 2 (.lst .nil)) (.seq (.fors (.many [3, 4]) .enu (.cons (.var 0) .nil) (.seq (.fors (.many [5, 6]) .it (.cons (.var 4) .nil) (.seq (.ifs (.cmp .eq (.var 6) (.str [111, 112, 101, 110])) (.seq (.expr (.bm .append (.var 2) (.cons (.bi .len (.cons (.var 1) .nil)) .nil))) (.seq (.expr (.bm .append (.var 1) (.cons (.tup (.cons (.var 3) (.cons (.var 5) (.cons .non .nil)))) .nil))) .skip)) (.seq (.ifs (.cmp .gt (.bi .len (.cons (.var 2) .nil)) (.int 0)) (.seq (.asg 7 (.bm .pop (.var 2) .nil)) (.seq (.setIx (.var 1) (.var 7) (.tup (.cons (.ix (.ix (.var 1) (.var 7)) (.int 0)) (.cons (.ix (.ix (.var 1) (.var 7)) (.int 1)) (.cons (.tup (.cons (.var 3) (.cons (.var 5) .nil))) .nil))))) .skip)) .skip) .skip)) .skip)) .skip)) (.seq (.ret (.var 1)) .skip))))⟩
/-- ['rows_marks', 'found', 'depth', 'marks', 'one'] -/
def p_depths : Fn := ⟨1, 5, false, (.seq (.asg 1 (.lst .nil)) (.seq (.asg 2 (.int 0)) (.seq (.fors (.one 3) .it (.cons (.var 0) .nil) (.seq (.expr (.bm .append (.var 1) (.cons (.var 2) .nil))) (.seq (.fors (.one 4) .it (.cons (.var 3) .nil) (.seq (.ifs (.cmp .eq (.ix (.var 4) (.int 1)) (.str [111, 112, 101, 110])) (.seq (.asg 2 (.bin .add (.var 2) (.int 1))) .skip) (.seq (.ifs (.cmp .gt (.var 2) (.int 0)) (.seq (.asg 2 (.bin .sub (.var 2) (.int 1))) .skip) .skip) .skip)) .skip)) .skip))) (.seq (.ret (.var 1)) .skip))))⟩
/-- ['rows_marks', 'row', 'one'] -/
def p_fold_of : Fn := ⟨2, 3, false, (.seq (.ifs (.or (.cmp .lt (.var 1) (.int 0)) (.cmp .ge (.var 1) (.bi .len (.cons (.var 0) .nil)))) (.seq (.raise 3 (.cons (.str [110, 111, 32, 115, 117, 99, 104, 32, 114, 111, 119]) .nil)) .skip) .skip) (.seq (.fors (.one 2) .it (.cons (.call 66 (.cons (.var 0) .nil)) .nil) (.seq (.ifs (.and (.cmp .eq (.ix (.var 2) (.int 0)) (.var 1)) (.and (.notN (.ix (.var 2) (.int 2))) (.cmp .gt (.ix (.ix (.var 2) (.int 2)) (.int 0)) (.var 1)))) (.seq (.ret (.ix (.ix (.var 2) (.int 2)) (.int 0))) .skip) .skip) .skip)) (.seq (.ret .non) .skip)))⟩
/-- ['self', 'row', 'at'] -/
def p_Pattern_eaten : Fn := ⟨3, 3, false, (.seq (.ret .non) .skip)⟩
/-- ['self'] -/
def p_Pattern_eats : Fn := ⟨1, 1, false, (.seq (.ret (.bl true)) .skip)⟩
/-- ['self', 'text'] -/
def p_Word_ini : Fn := ⟨2, 2, false, (.seq (.setFld (.var 0) 4 (.var 1)) .skip)⟩
/-- ['self', 'row', 'at'] -/
def p_Word_eaten : Fn := ⟨3, 3, false, (.seq (.ifs (.cmp .eq (.sl (.var 1) (.var 2) (.bin .add (.var 2) (.bi .len (.cons (.fld (.var 0) 4) .nil)))) (.fld (.var 0) 4)) (.seq (.ret (.bi .len (.cons (.fld (.var 0) 4) .nil))) .skip) .skip) (.seq (.ret .non) .skip))⟩
/-- ['self', 'signs'] -/
def p_One_ini : Fn := ⟨2, 2, false, (.seq (.setFld (.var 0) 4 (.var 1)) .skip)⟩
/-- ['self', 'row', 'at'] -/
def p_One_eaten : Fn := ⟨3, 3, false, (.seq (.ret (.ife (.and (.cmp .lt (.var 2) (.bi .len (.cons (.var 1) .nil))) (.cmp .inn (.ix (.var 1) (.var 2)) (.fld (.var 0) 4))) (.int 1) .non)) .skip)⟩
/-- ['self', 'row', 'at'] -/
def p_Without_eaten : Fn := ⟨3, 3, false, (.seq (.ret (.ife (.and (.cmp .lt (.var 2) (.bi .len (.cons (.var 1) .nil))) (.cmp .nin (.ix (.var 1) (.var 2)) (.fld (.var 0) 4))) (.int 1) .non)) .skip)⟩
/-- ['self', 'row', 'at', 'end'] -/
def p_Many_eaten : Fn := ⟨3, 4, false, (.seq (.asg 3 (.var 2)) (.seq (.whl (.and (.cmp .lt (.var 3) (.bi .len (.cons (.var 1) .nil))) (.cmp .inn (.ix (.var 1) (.var 3)) (.fld (.var 0) 4))) (.seq (.asg 3 (.bin .add (.var 3) (.int 1))) .skip)) (.seq (.ret (.ife (.cmp .gt (.var 3) (.var 2)) (.bin .sub (.var 3) (.var 2)) .non)) .skip)))⟩
/-- ['self', 'row', 'at'] -/
def p_Any_eaten : Fn := ⟨3, 3, false, (.seq (.ret (.ife (.cmp .lt (.var 2) (.bi .len (.cons (.var 1) .nil))) (.int 1) .non)) .skip)⟩
/-- ['self', 'row', 'at'] -/
def p_Still_eaten : Fn := ⟨3, 3, false, (.seq (.ret (.ife (.cmp .lt (.var 2) (.bi .len (.cons (.var 1) .nil))) (.int 0) .non)) .skip)⟩
/-- ['self'] -/
def p_Still_eats : Fn := ⟨1, 1, false, (.seq (.ret (.bl false)) .skip)⟩
/-- ['self', 'row', 'at'] -/
def p_End_eaten : Fn := ⟨3, 3, false, (.seq (.ret (.ife (.cmp .eq (.var 2) (.bi .len (.cons (.var 1) .nil))) (.int 0) .non)) .skip)⟩
/-- ['self', 'pattern', 'colour', 'deed', 'goal', 'fold'] -/
def p_Rule_ini : Fn := ⟨6, 6, false, (.seq (.setFld (.var 0) 5 (.var 1)) (.seq (.setFld (.var 0) 6 (.var 2)) (.seq (.setFld (.var 0) 7 (.var 3)) (.seq (.setFld (.var 0) 8 (.var 4)) (.seq (.setFld (.var 0) 9 (.var 5)) .skip)))))⟩
/-- ['self', 'name', 'colour', 'rules'] -/
def p_Mode_ini : Fn := ⟨4, 4, false, (.seq (.setFld (.var 0) 10 (.var 1)) (.seq (.setFld (.var 0) 6 (.var 2)) (.seq (.setFld (.var 0) 11 (.bi .list (.cons (.var 3) .nil))) .skip)))⟩
/-- ['self', 'modes'] -/
def p_Rules_ini : Fn := ⟨2, 2, false, (.seq (.setFld (.var 0) 12 (.bi .list (.cons (.var 1) .nil))) .skip)⟩
/-- ['word', 'sign'] -/
def p_is_name : Fn := ⟨1, 2, false, (.seq (.ifs (.or (.cmp .eq (.bi .len (.cons (.var 0) .nil)) (.int 0)) (.cmp .gt (.bi .len (.cons (.var 0) .nil)) (.int 8))) (.seq (.ret (.bl false)) .skip) .skip) (.seq (.fors (.one 1) .it (.cons (.var 0) .nil) (.seq (.ifs (.cmp .nin (.var 1) (.glob 0)) (.seq (.ret (.bl false)) .skip) .skip) .skip)) (.seq (.ret (.bl true)) .skip)))⟩
/-- ['self', 'row', 'words'] -/
def p_Words_ini : Fn := ⟨3, 3, false, (.seq (.setFld (.var 0) 0 (.var 1)) (.seq (.setFld (.var 0) 13 (.var 2)) (.seq (.setFld (.var 0) 14 (.int 0)) .skip)))⟩
/-- ['self'] -/
def p_Words_more : Fn := ⟨1, 1, false, (.seq (.ret (.cmp .lt (.fld (.var 0) 14) (.bi .len (.cons (.fld (.var 0) 13) .nil)))) .skip)⟩
/-- ['self'] -/
def p_Words_next_word : Fn := ⟨1, 1, false, (.seq (.ifs (.not (.mth (.var 0) 3 .nil)) (.seq (.raise 1 (.cons (.fld (.var 0) 0) (.cons (.fld (.var 0) 14) .nil))) .skip) .skip) (.seq (.ret (.ix (.fld (.var 0) 13) (.fld (.var 0) 14))) .skip))⟩
/-- ['self', 'word'] -/
def p_Words_read_name : Fn := ⟨1, 2, false, (.seq (.asg 1 (.mth (.var 0) 4 .nil)) (.seq (.ifs (.not (.call 20 (.cons (.var 1) .nil))) (.seq (.raise 1 (.cons (.fld (.var 0) 0) (.cons (.fld (.var 0) 14) .nil))) .skip) .skip) (.seq (.setFld (.var 0) 14 (.bin .add (.fld (.var 0) 14) (.int 1))) (.seq (.ret (.var 1)) .skip))))⟩
/-- ['self', 'some', 'word'] -/
def p_Words_one_of : Fn := ⟨2, 3, false, (.seq (.asg 2 (.mth (.var 0) 4 .nil)) (.seq (.ifs (.cmp .nin (.var 2) (.var 1)) (.seq (.raise 1 (.cons (.fld (.var 0) 0) (.cons (.fld (.var 0) 14) .nil))) .skip) .skip) (.seq (.setFld (.var 0) 14 (.bin .add (.fld (.var 0) 14) (.int 1))) (.seq (.ret (.var 2)) .skip))))⟩
/-- ['self', 'word'] -/
def p_Words_read_signs : Fn := ⟨1, 2, false, (.seq (.asg 1 (.mth (.var 0) 4 .nil)) (.seq (.ifs (.or (.cmp .ne (.sl (.var 1) .nil (.int 1)) (.str [39])) (.cmp .lt (.bi .len (.cons (.var 1) .nil)) (.int 2))) (.seq (.raise 1 (.cons (.fld (.var 0) 0) (.cons (.fld (.var 0) 14) .nil))) .skip) .skip) (.seq (.setFld (.var 0) 14 (.bin .add (.fld (.var 0) 14) (.int 1))) (.seq (.ret (.rpl none (.var 1) 95 32)) .skip))))⟩
/-- ['self'] -/
def p_Words_over : Fn := ⟨1, 1, false, (.seq (.ifs (.mth (.var 0) 3 .nil) (.seq (.raise 1 (.cons (.fld (.var 0) 0) (.cons (.fld (.var 0) 14) .nil))) .skip) .skip) .skip)⟩
/-- ['words', 'sort', 'signs'] -/
def p_read_pattern : Fn := ⟨1, 3, false, (.seq (.asg 1 (.mth (.var 0) 6 (.cons (.bin .add (.glob 1) (.glob 2)) .nil))) (.seq (.ifs (.cmp .eq (.var 1) (.str [97, 110, 121])) (.seq (.ret (.mk 12 .nil)) .skip) .skip) (.seq (.ifs (.cmp .eq (.var 1) (.str [115, 116, 105, 108, 108])) (.seq (.ret (.mk 13 .nil)) .skip) .skip) (.seq (.ifs (.cmp .eq (.var 1) (.str [101, 110, 100])) (.seq (.ret (.mk 14 .nil)) .skip) .skip) (.seq (.asg 2 (.mth (.var 0) 7 .nil)) (.seq (.ifs (.cmp .eq (.var 1) (.str [119, 111, 114, 100])) (.seq (.ret (.mk 8 (.cons (.var 2) .nil))) .skip) .skip) (.seq (.ifs (.cmp .eq (.var 1) (.str [111, 110, 101])) (.seq (.ret (.mk 9 (.cons (.var 2) .nil))) .skip) .skip) (.seq (.ifs (.cmp .eq (.var 1) (.str [110, 111, 110, 101])) (.seq (.ret (.mk 10 (.cons (.var 2) .nil))) .skip) .skip) (.seq (.ret (.mk 11 (.cons (.var 2) .nil))) .skip)))))))))⟩
/-- ['words', 'wanted', 'pattern', 'colour', 'deed', 'goal', 'place', 'fold'] -/
def p_read_rule : Fn := ⟨2, 8, false, (.seq (.asg 2 (.call 28 (.cons (.var 0) .nil))) (.seq (.asg 3 (.ife (.mth (.var 2) 1 .nil) (.mth (.var 0) 5 .nil) (.str []))) (.seq (.asg 4 (.mth (.var 0) 6 (.cons (.glob 3) .nil))) (.seq (.asg 5 .non) (.seq (.ifs (.cmp .inn (.var 4) (.tup (.cons (.str [112, 117, 115, 104]) (.cons (.str [105, 110, 116, 111]) .nil)))) (.seq (.asg 6 (.tup (.cons (.fld (.var 0) 0) (.cons (.fld (.var 0) 14) .nil)))) (.seq (.asg 5 (.mth (.var 0) 5 .nil)) (.seq (.expr (.bm .append (.var 1) (.cons (.tup (.cons (.var 5) (.cons (.var 6) .nil))) .nil))) .skip))) .skip) (.seq (.asg 7 (.ife (.mth (.var 0) 3 .nil) (.mth (.var 0) 6 (.cons (.glob 4) .nil)) (.str []))) (.seq (.expr (.mth (.var 0) 8 .nil)) (.seq (.ret (.mk 15 (.cons (.var 2) (.cons (.var 3) (.cons (.var 4) (.cons (.var 5) (.cons (.var 7) .nil))))))) .skip))))))))⟩
/-- ['words', 'modes', 'name', 'mode', 'colour'] -/
def p_read_mode : Fn := ⟨2, 5, false, (.seq (.ifs (.cmp .eq (.bi .len (.cons (.var 1) .nil)) (.glob 5)) (.seq (.raise 1 (.cons (.fld (.var 0) 0) (.cons (.fld (.var 0) 14) .nil))) .skip) .skip) (.seq (.setFld (.var 0) 14 (.int 1)) (.seq (.asg 2 (.mth (.var 0) 4 .nil)) (.seq (.ifs (.or (.not (.call 20 (.cons (.var 2) .nil))) (.cmp .inn (.var 2) (.lc (.fld (.var 3) 10) (.one 3) [3] .it (.cons (.var 1) .nil) .nil))) (.seq (.raise 1 (.cons (.fld (.var 0) 0) (.cons (.fld (.var 0) 14) .nil))) .skip) .skip) (.seq (.setFld (.var 0) 14 (.int 2)) (.seq (.asg 4 (.mth (.var 0) 5 .nil)) (.seq (.expr (.mth (.var 0) 8 .nil)) (.seq (.ret (.mk 16 (.cons (.var 2) (.cons (.var 4) (.cons (.lst .nil) .nil))))) .skip))))))))⟩
/-- ['text', 'modes', 'wanted', 'number', 'row', 'words', 'names', 'mode', 'name', 'place', 'rule'] -/
def p_read_rules : Fn := ⟨1, 11, true, (.seq (.asg 1 (.cel (.lst .nil))) (.seq (.asg 2 (.cel (.lst .nil))) (.seq (.fors (.many [3, 4]) .enu (.cons (.bm .split (.var 0) (.cons (.str [10]) .nil)) .nil) (.seq (.asg 5 (.mkc 18 (.cons (.var 3) (.cons (.bm .split (.var 4) (.cons (.str [32]) .nil)) .nil)))) (.seq (.ifs (.cmp .eq (.ix (.fld (.var 5) 13) (.int 0)) (.str [109, 111, 100, 101])) (.seq (.expr (.bm .append (.var 1) (.cons (.call 30 (.cons (.var 5) (.cons (.var 1) .nil))) .nil))) .skip) (.seq (.ifs (.or (.cmp .eq (.bi .len (.cons (.var 1) .nil)) (.int 0)) (.cmp .eq (.bi .len (.cons (.fld (.ix (.var 1) (.neg (.int 1))) 11) .nil)) (.glob 5))) (.seq (.raise 1 (.cons (.fld (.var 5) 0) (.cons (.fld (.var 5) 14) .nil))) .skip) (.seq (.expr (.bm .append (.fld (.ix (.var 1) (.neg (.int 1))) 11) (.cons (.call 29 (.cons (.var 5) (.cons (.var 2) .nil))) .nil))) .skip)) .skip)) .skip))) (.seq (.asg 6 (.lc (.fld (.var 7) 10) (.one 7) [7] .it (.cons (.var 1) .nil) .nil)) (.seq (.fors (.many [8, 9]) .it (.cons (.var 2) .nil) (.seq (.ifs (.cmp .nin (.var 8) (.var 6)) (.seq (.raise 1 (.cons (.ix (.var 9) (.int 0)) (.cons (.ix (.var 9) (.int 1)) .nil))) .skip) .skip) .skip)) (.seq (.fors (.one 7) .it (.cons (.var 1) .nil) (.seq (.fors (.one 10) .it (.cons (.fld (.var 7) 11) .nil) (.seq (.ifs (.notN (.fld (.var 10) 8)) (.seq (.setFld (.var 10) 8 (.bm .index (.var 6) (.cons (.fld (.var 10) 8) .nil))) .skip) .skip) .skip)) .skip)) (.seq (.ret (.mkc 17 (.cons (.var 1) .nil))) .skip)))))))⟩
/-- ['pattern', 'signs'] -/
def p_shown_pattern : Fn := ⟨1, 2, false, (.seq (.ifs (.isi (.var 0) [.own 14]) (.seq (.ret (.lst (.cons (.str [101, 110, 100]) .nil))) .skip) .skip) (.seq (.ifs (.isi (.var 0) [.own 13]) (.seq (.ret (.lst (.cons (.str [115, 116, 105, 108, 108]) .nil))) .skip) .skip) (.seq (.ifs (.isi (.var 0) [.own 12]) (.seq (.ret (.lst (.cons (.str [97, 110, 121]) .nil))) .skip) .skip) (.seq (.asg 1 (.rpl (some [39]) (.fld (.var 0) 4) 32 95)) (.seq (.ifs (.isi (.var 0) [.own 8]) (.seq (.ret (.lst (.cons (.str [119, 111, 114, 100]) (.cons (.var 1) .nil)))) .skip) .skip) (.seq (.ifs (.isi (.var 0) [.own 11]) (.seq (.ret (.lst (.cons (.str [109, 97, 110, 121]) (.cons (.var 1) .nil)))) .skip) .skip) (.seq (.ifs (.isi (.var 0) [.own 10]) (.seq (.ret (.lst (.cons (.str [110, 111, 110, 101]) (.cons (.var 1) .nil)))) .skip) .skip) (.seq (.ret (.lst (.cons (.str [111, 110, 101]) (.cons (.var 1) .nil)))) .skip))))))))⟩
/-- ['rules', 'rule', 'words'] -/
def p_shown_rule : Fn := ⟨2, 3, false, (.seq (.asg 2 (.call 32 (.cons (.fld (.var 1) 5) .nil))) (.seq (.ifs (.cmp .ne (.fld (.var 1) 6) (.str [])) (.seq (.expr (.bm .append (.var 2) (.cons (.fld (.var 1) 6) .nil))) .skip) .skip) (.seq (.expr (.bm .append (.var 2) (.cons (.fld (.var 1) 7) .nil))) (.seq (.ifs (.notN (.fld (.var 1) 8)) (.seq (.expr (.bm .append (.var 2) (.cons (.fld (.ix (.fld (.var 0) 12) (.fld (.var 1) 8)) 10) .nil))) .skip) .skip) (.seq (.ifs (.cmp .ne (.fld (.var 1) 9) (.str [])) (.seq (.expr (.bm .append (.var 2) (.cons (.fld (.var 1) 9) .nil))) .skip) .skip) (.seq (.ret (.bm .join (.str [32]) (.cons (.var 2) .nil))) .skip))))))⟩
/-- ['rules', 'rows', 'mode', 'rule'] -/
def p_shown_rules : Fn := ⟨1, 4, false, (.seq (.asg 1 (.lst .nil)) (.seq (.fors (.one 2) .it (.cons (.fld (.var 0) 12) .nil) (.seq (.expr (.bm .append (.var 1) (.cons (.bin .add (.bin .add (.bin .add (.str [109, 111, 100, 101, 32]) (.fld (.var 2) 10)) (.str [32])) (.fld (.var 2) 6)) .nil))) (.seq (.fors (.one 3) .it (.cons (.fld (.var 2) 11) .nil) (.seq (.expr (.bm .append (.var 1) (.cons (.call 33 (.cons (.var 0) (.cons (.var 3) .nil))) .nil))) .skip)) .skip))) (.seq (.ret (.bm .join (.str [10]) (.cons (.var 1) .nil))) .skip)))⟩
/-- ['self'] -/
def p_Pattern_told : Fn := ⟨1, 1, false, (.seq (.ret (.str [])) .skip)⟩
/-- ['self'] -/
def p_Word_told : Fn := ⟨1, 1, false, (.seq (.ret (.fld (.var 0) 4)) .skip)⟩
/-- ['self'] -/
def p_One_told : Fn := ⟨1, 1, false, (.seq (.ret (.fld (.var 0) 4)) .skip)⟩
/-- ['rules', 'mode', 'row', 'at', 'number', 'rule'] -/
def p_first_rule : Fn := ⟨4, 6, false, (.seq (.fors (.many [4, 5]) .enu (.cons (.fld (.ix (.fld (.var 0) 12) (.var 1)) 11) .nil) (.seq (.ifs (.notN (.mth (.fld (.var 5) 5) 0 (.cons (.var 2) (.cons (.var 3) .nil)))) (.seq (.ret (.var 4)) .skip) .skip) .skip)) (.seq (.ret .non) .skip))⟩
/-- ['rules', 'modes', 'rule', 'told'] -/
def p_after : Fn := ⟨3, 4, false, (.seq (.asg 3 (.ix (.fld (.ix (.fld (.var 0) 12) (.ix (.var 1) (.neg (.int 1)))) 11) (.var 2))) (.seq (.ifs (.cmp .eq (.fld (.var 3) 7) (.str [112, 117, 115, 104])) (.seq (.ret (.bin .add (.var 1) (.lst (.cons (.fld (.var 3) 8) .nil)))) .skip) .skip) (.seq (.ifs (.cmp .eq (.fld (.var 3) 7) (.str [105, 110, 116, 111])) (.seq (.ret (.bin .add (.sl (.var 1) .nil (.neg (.int 1))) (.lst (.cons (.fld (.var 3) 8) .nil)))) .skip) .skip) (.seq (.ifs (.cmp .eq (.fld (.var 3) 7) (.str [112, 111, 112])) (.seq (.ret (.ife (.cmp .gt (.bi .len (.cons (.var 1) .nil)) (.int 1)) (.sl (.var 1) .nil (.neg (.int 1))) (.lst (.cons (.int 0) .nil)))) .skip) .skip) (.seq (.ret (.bi .list (.cons (.var 1) .nil))) .skip)))))⟩
end TR
end

section
set_option Elab.async false
set_option linter.all false
set_option maxRecDepth 100000
set_option autoImplicit false
namespace K09
open TR
local macro_rules
  | `(tactic| simp!) => `(tactic| simp only [↓wE_non, ↓wE_bl, ↓wE_int, ↓wE_str, ↓wE_var, ↓wE_glob, ↓wE_tup, ↓wE_lst, ↓wE_dic0, ↓wE_cel, ↓wE_bin, ↓wE_neg, ↓wE_cmp, ↓wE_isN, ↓wE_notN, ↓wE_chn', ↓wE_and', ↓wE_or', ↓wE_not, ↓wE_ife', ↓wE_ix, ↓wE_sl', ↓wE_fld, ↓wE_call', ↓wE_mth', ↓wE_mk, ↓wE_mkc, ↓wE_bi, ↓wE_bm', ↓wE_isi, ↓wA_nil, ↓wA_cons, ↓wB_nil, ↓wB_cons, ↓wS_skip, ↓wS_seq, ↓wS_asg, ↓wS_asgT, ↓wS_setIx, ↓wS_setFld, ↓wS_expr, ↓wS_ret, ↓wS_ifs', ↓wS_fors, show_none, ↓wS_brk, ↓wS_cnt, ↓wS_raise, ↓wS_tryN, ↓wS_try0, ↓wO_nil, ↓wO_int, ↓wO_var, ↓wO_bin, ↓wO_neg, ↓wO_ix, ↓wO_bi, ↓wO_fld, ↓wO_call, ↓wO_ife, iO_int, ↓vW_olst, ↓vW_odct, ↓vW_oobj, ↓vW_non, ↓vW_bl, ↓vW_int, ↓vW_str, ↓vW_tup, ↓vW_lst, ↓vW_dct, ↓vW_obj, ↓vW_loc, ↓vW_scr, ↓vW_exc, and_true, true_and, oW_some, bW_bl, ok_w, exc_w, nx_w, ret_w, fl_w, bind_w, of_w, Bool.false_and, Bool.true_and, Bool.and_true, Bool.and_false, Bool.or_false, Bool.false_or, Bool.or_true, Bool.true_or, Bool.not_true, Bool.not_false, Bool.not_not, if_true, if_false, reduceCtorEq, reduceIte, Option.map_some, Option.map_none, Option.bind_some, Option.bind_none, Option.isSome_some, Option.isSome_none, decide_true, decide_false, List.getElem?_cons_succ, List.getElem?_cons_zero, List.set_cons_succ, List.set_cons_zero, List.length_cons, List.length_nil, List.all_cons, List.all_nil, List.any_cons, List.any_nil, List.lookup_cons, List.map_cons, List.map_nil, Int.reduceLT, Int.reduceLE, Int.reduceMul, Int.reduceAdd, Int.reduceSub, Int.reduceNeg, Int.reduceDiv, Int.reduceMod, Int.reduceToNat, Int.reducePow, Int.reduceEq, Int.reduceNe, Int.reduceBEq, Int.reduceBNe, Nat.reduceLT, Nat.reduceLeDiff, Nat.reduceAdd, Nat.reduceMul, Nat.reduceSub, Nat.reduceEqDiff, Nat.reduceBEq, Nat.reduceDiv, Nat.reduceMod, Nat.reducePow, Int.natCast_zero, Int.natCast_one, true_or, or_true, Int.reduceGT, Int.reduceGE, and_self, isF_non, isF_bl, isF_int, isF_str, isF_tup, isF_lst, isF_dct, isF_obj, isF_olst, isF_odct, isF_oobj, isF_loc, isF_sref, isF_fref, isF_hid, isF_dead, isF_scr, isF_exc, owned_non, owned_bl, owned_int, owned_str, owned_tup, owned_lst, owned_dct, owned_obj, owned_olst, owned_odct, owned_oobj, owned_loc, owned_sref, owned_fref, owned_hid, owned_dead, owned_scr, owned_exc, isNon_non, isNon_bl, isNon_int, isNon_str, isNon_tup, isNon_lst, isNon_dct, isNon_obj, isNon_olst, isNon_odct, isNon_oobj, isNon_loc, isNon_sref, isNon_fref, isNon_hid, isNon_dead, isNon_scr, isNon_exc, recvOk_non, recvOk_bl, recvOk_int, recvOk_str, recvOk_tup, recvOk_lst, recvOk_dct, recvOk_obj, recvOk_olst, recvOk_odct, recvOk_oobj, recvOk_loc, recvOk_sref, recvOk_fref, recvOk_hid, recvOk_dead, recvOk_scr, recvOk_exc, keepOk_non, keepOk_bl, keepOk_int, keepOk_str, keepOk_tup, keepOk_lst, keepOk_dct, keepOk_obj, keepOk_olst, keepOk_odct, keepOk_oobj, keepOk_loc, keepOk_sref, keepOk_fref, keepOk_hid, keepOk_dead, keepOk_scr, keepOk_exc, isLs_non, isLs_bl, isLs_int, isLs_str, isLs_tup, isLs_lst, isLs_dct, isLs_obj, isLs_olst, isLs_odct, isLs_oobj, isLs_loc, isLs_sref, isLs_fref, isLs_hid, isLs_dead, isLs_scr, isLs_exc, flat_non, flat_bl, flat_int, flat_str, flat_tup, flat_lst, flat_dct, flat_obj, flat_olst, flat_odct, flat_oobj, flat_loc, flat_sref, flat_fref, flat_hid, flat_dead, flat_scr, flat_exc, ldt_non, ldt_bl, ldt_int, ldt_str, ldt_tup, ldt_lst, ldt_dct, ldt_obj, ldt_olst, ldt_odct, ldt_oobj, ldt_loc, ldt_sref, ldt_fref, ldt_hid, ldt_dead, ldt_scr, ldt_exc, nmOf_non, nmOf_bl, nmOf_int, nmOf_str, nmOf_tup, nmOf_lst, nmOf_dct, nmOf_obj, nmOf_olst, nmOf_odct, nmOf_oobj, nmOf_loc, nmOf_sref, nmOf_fref, nmOf_hid, nmOf_dead, nmOf_scr, nmOf_exc, esc_non, cont_non, asgD_non, retD_non, ownO_non, ownC_non, objO_non, dataO_non, isListO_non, isTupO_non, objOf_non, fldR_non, isIc_int_non, isIc_bool_non, isIc_str_non, esc_bl, cont_bl, asgD_bl, retD_bl, ownO_bl, ownC_bl, objO_bl, dataO_bl, objOf_bl, fldR_bl, isIc_int_bl, isIc_bool_bl, isIc_str_bl, esc_int, cont_int, asgD_int, retD_int, ownO_int, ownC_int, objO_int, dataO_int, isListO_int, isTupO_int, objOf_int, fldR_int, isIc_int_int, isIc_bool_int, isIc_str_int, esc_str, cont_str, asgD_str, retD_str, ownO_str, ownC_str, objO_str, bListO_str, ixO_str, lenO_str, slO_str, itO_str, dataO_str, isListO_str, isTupO_str, objOf_str, fldR_str, isIc_int_str, isIc_bool_str, isIc_str_str, esc_tup, cont_tup, asgD_tup, retD_tup, ownO_tup, ownC_tup, objO_tup, seqO_tup, ixO_tup, lenO_tup, bListO_tup, slO_tup, itO_tup, dataO_tup, isListO_tup, isTupO_tup, objOf_tup, fldR_tup, esc_lst, cont_lst, asgD_lst, retD_lst, ownO_lst, ownC_lst, lstO_lst, objO_lst, seqO_lst, ixO_lst, lenO_lst, bListO_lst, slO_lst, itO_lst, dataO_lst, isListO_lst, isTupO_lst, objOf_lst, fldR_lst, esc_dct, cont_dct, asgD_dct, retD_dct, ownO_dct, ownC_dct, dctO_dct, objO_dct, ixK_dct, dataO_dct, objOf_dct, fldR_dct, esc_obj, cont_obj, asgD_obj, retD_obj, ownO_obj, ownC_obj, objO_obj, dataO_obj, objOf_obj, fldR_obj, esc_olst, cont_olst, asgD_olst, retD_olst, ownO_olst, ownC_olst, lstO_olst, objO_olst, seqO_olst, ixO_olst, lenO_olst, bListO_olst, slO_olst, itO_olst, dataO_olst, isListO_olst, isTupO_olst, objOf_olst, fldR_olst, esc_odct, cont_odct, asgD_odct, retD_odct, ownO_odct, ownC_odct, dctO_odct, objO_odct, ixK_odct, dataO_odct, objOf_odct, fldR_odct, esc_oobj, cont_oobj, asgD_oobj, retD_oobj, ownO_oobj, ownC_oobj, objO_oobj, dataO_oobj, objOf_oobj, fldR_oobj, esc_loc, cont_loc, asgD_loc, retD_loc, ownO_loc, ownC_loc, objO_loc, dataO_loc, objOf_loc, fldR_loc, esc_sref, cont_sref, asgD_sref, retD_sref, ownO_sref, ownC_sref, objO_sref, dataO_sref, objOf_sref, fldR_sref, cont_fref, asgD_fref, ownO_fref, ownC_fref, objO_fref, dataO_fref, objOf_fref, fldR_fref, cont_hid, ownO_hid, ownC_hid, objO_hid, objOf_hid, cont_dead, ownO_dead, ownC_dead, objO_dead, dataO_dead, objOf_dead, fldR_dead, esc_scr, cont_scr, asgD_scr, retD_scr, ownO_scr, ownC_scr, objO_scr, ixO_scr, lenO_scr, itO_scr, dataO_scr, objOf_scr, fldR_scr, esc_exc, cont_exc, asgD_exc, retD_exc, ownO_exc, ownC_exc, objO_exc, dataO_exc, objOf_exc, fldR_exc, isIc_ownx, isIc_verrx, isIc_own_obj, isIc_own_int, isIc_own_str, isIc_own_bl, isIc_own_non, isIc_list, isIc_tuple, anyIc_nil, anyIc_t, anyIc_f, ownAt_slot, ownAt_cell, ownAt_fld, ownF_oobj, escO_olst, escO_odct, escO_oobj, retO_olst, retO_odct, retO_oobj, asLst_eq, asDct_eq, asObj_eq, asSeq_eq, ixD_int, ixD_str, len_eq, bint_int, bint_bl, bint_str, bstr_int, blist_eq, bdict_eq, bmax_eq, bmin_eq, bsum_eq, slD_eq, srcIt_eq, srcs_it, srcs_rng1, srcs_rng2, srcs_enu, hide_none, nms_nil, nms_no, nms_sref, nms_loc, nms_fref, hide_one, hideO_olst, unhide_none, unhide_some, unhideO_hid, put_slot, put_cell, app_eq, appO_olst, ext_eq, extO_olst, pop_eq, popO_snoc, clr_eq, clrO_olst, ins_eq, split_eq, split2_eq, starts_eq, join_eq, rk_join, rk_split, rk_starts, rk_append, rk_extend, rk_insert, rk_pop, rk_clear, rk_index, setI, setK, nmW_some, stKO_odct, joinO_some, b_addI, b_subI, b_mulI, b_fdivI, b_modI, b_powI, b_shrI, b_addS, b_addT, b_addL, addLO_some, b_mulL, mulLO_some, stIO_w, hF_no, hF_calm, iW_t, iW_f, atI_0, ixN_0, atI_1, ixN_1, atI_2, ixN_2, atI_3, ixN_3, atI_4, ixN_4, atI_5, ixN_5, atI_6, ixN_6, atI_7, ixN_7, noOwn_nil, noOwn_cons, slotFree_none, slotFree_some, wipe_nil, wipe_cons, restore_nil, restore_cons, join_some, ↓wE_lcW, evS_w, evE_w, condBn, condB_w, fldPut_w, fpO_oobj, fput_nil, fput_cons, setF_sref, setF_loc_t, setF_loc_f, bind_one, bind_many, setAll_nil, setAll_cons, oWmap, inD_eq, inO_str, inO_dct, inO_odct, inO_tup, inO_lst, inO_olst, eqv_int, eqv_str, eqv_bl, eqv_non, eqv_nonint, eqv_intnon, eqv_nonstr, eqv_strnon, eqv_strint, eqv_intstr, eqv_tup, eqv_lst, cmp_lt, cmp_le, cmp_gt, cmp_ge, cmp_eq, cmp_ne, cmp_in, cmp_nin, eqD_eq, eqO2_int, eqO2_str, eqO2_bl])
  | `(tactic| simp! [$a,*]) => `(tactic| simp only [↓wE_non, ↓wE_bl, ↓wE_int, ↓wE_str, ↓wE_var, ↓wE_glob, ↓wE_tup, ↓wE_lst, ↓wE_dic0, ↓wE_cel, ↓wE_bin, ↓wE_neg, ↓wE_cmp, ↓wE_isN, ↓wE_notN, ↓wE_chn', ↓wE_and', ↓wE_or', ↓wE_not, ↓wE_ife', ↓wE_ix, ↓wE_sl', ↓wE_fld, ↓wE_call', ↓wE_mth', ↓wE_mk, ↓wE_mkc, ↓wE_bi, ↓wE_bm', ↓wE_isi, ↓wA_nil, ↓wA_cons, ↓wB_nil, ↓wB_cons, ↓wS_skip, ↓wS_seq, ↓wS_asg, ↓wS_asgT, ↓wS_setIx, ↓wS_setFld, ↓wS_expr, ↓wS_ret, ↓wS_ifs', ↓wS_fors, show_none, ↓wS_brk, ↓wS_cnt, ↓wS_raise, ↓wS_tryN, ↓wS_try0, ↓wO_nil, ↓wO_int, ↓wO_var, ↓wO_bin, ↓wO_neg, ↓wO_ix, ↓wO_bi, ↓wO_fld, ↓wO_call, ↓wO_ife, iO_int, ↓vW_olst, ↓vW_odct, ↓vW_oobj, ↓vW_non, ↓vW_bl, ↓vW_int, ↓vW_str, ↓vW_tup, ↓vW_lst, ↓vW_dct, ↓vW_obj, ↓vW_loc, ↓vW_scr, ↓vW_exc, and_true, true_and, oW_some, bW_bl, ok_w, exc_w, nx_w, ret_w, fl_w, bind_w, of_w, Bool.false_and, Bool.true_and, Bool.and_true, Bool.and_false, Bool.or_false, Bool.false_or, Bool.or_true, Bool.true_or, Bool.not_true, Bool.not_false, Bool.not_not, if_true, if_false, reduceCtorEq, reduceIte, Option.map_some, Option.map_none, Option.bind_some, Option.bind_none, Option.isSome_some, Option.isSome_none, decide_true, decide_false, List.getElem?_cons_succ, List.getElem?_cons_zero, List.set_cons_succ, List.set_cons_zero, List.length_cons, List.length_nil, List.all_cons, List.all_nil, List.any_cons, List.any_nil, List.lookup_cons, List.map_cons, List.map_nil, Int.reduceLT, Int.reduceLE, Int.reduceMul, Int.reduceAdd, Int.reduceSub, Int.reduceNeg, Int.reduceDiv, Int.reduceMod, Int.reduceToNat, Int.reducePow, Int.reduceEq, Int.reduceNe, Int.reduceBEq, Int.reduceBNe, Nat.reduceLT, Nat.reduceLeDiff, Nat.reduceAdd, Nat.reduceMul, Nat.reduceSub, Nat.reduceEqDiff, Nat.reduceBEq, Nat.reduceDiv, Nat.reduceMod, Nat.reducePow, Int.natCast_zero, Int.natCast_one, true_or, or_true, Int.reduceGT, Int.reduceGE, and_self, isF_non, isF_bl, isF_int, isF_str, isF_tup, isF_lst, isF_dct, isF_obj, isF_olst, isF_odct, isF_oobj, isF_loc, isF_sref, isF_fref, isF_hid, isF_dead, isF_scr, isF_exc, owned_non, owned_bl, owned_int, owned_str, owned_tup, owned_lst, owned_dct, owned_obj, owned_olst, owned_odct, owned_oobj, owned_loc, owned_sref, owned_fref, owned_hid, owned_dead, owned_scr, owned_exc, isNon_non, isNon_bl, isNon_int, isNon_str, isNon_tup, isNon_lst, isNon_dct, isNon_obj, isNon_olst, isNon_odct, isNon_oobj, isNon_loc, isNon_sref, isNon_fref, isNon_hid, isNon_dead, isNon_scr, isNon_exc, recvOk_non, recvOk_bl, recvOk_int, recvOk_str, recvOk_tup, recvOk_lst, recvOk_dct, recvOk_obj, recvOk_olst, recvOk_odct, recvOk_oobj, recvOk_loc, recvOk_sref, recvOk_fref, recvOk_hid, recvOk_dead, recvOk_scr, recvOk_exc, keepOk_non, keepOk_bl, keepOk_int, keepOk_str, keepOk_tup, keepOk_lst, keepOk_dct, keepOk_obj, keepOk_olst, keepOk_odct, keepOk_oobj, keepOk_loc, keepOk_sref, keepOk_fref, keepOk_hid, keepOk_dead, keepOk_scr, keepOk_exc, isLs_non, isLs_bl, isLs_int, isLs_str, isLs_tup, isLs_lst, isLs_dct, isLs_obj, isLs_olst, isLs_odct, isLs_oobj, isLs_loc, isLs_sref, isLs_fref, isLs_hid, isLs_dead, isLs_scr, isLs_exc, flat_non, flat_bl, flat_int, flat_str, flat_tup, flat_lst, flat_dct, flat_obj, flat_olst, flat_odct, flat_oobj, flat_loc, flat_sref, flat_fref, flat_hid, flat_dead, flat_scr, flat_exc, ldt_non, ldt_bl, ldt_int, ldt_str, ldt_tup, ldt_lst, ldt_dct, ldt_obj, ldt_olst, ldt_odct, ldt_oobj, ldt_loc, ldt_sref, ldt_fref, ldt_hid, ldt_dead, ldt_scr, ldt_exc, nmOf_non, nmOf_bl, nmOf_int, nmOf_str, nmOf_tup, nmOf_lst, nmOf_dct, nmOf_obj, nmOf_olst, nmOf_odct, nmOf_oobj, nmOf_loc, nmOf_sref, nmOf_fref, nmOf_hid, nmOf_dead, nmOf_scr, nmOf_exc, esc_non, cont_non, asgD_non, retD_non, ownO_non, ownC_non, objO_non, dataO_non, isListO_non, isTupO_non, objOf_non, fldR_non, isIc_int_non, isIc_bool_non, isIc_str_non, esc_bl, cont_bl, asgD_bl, retD_bl, ownO_bl, ownC_bl, objO_bl, dataO_bl, objOf_bl, fldR_bl, isIc_int_bl, isIc_bool_bl, isIc_str_bl, esc_int, cont_int, asgD_int, retD_int, ownO_int, ownC_int, objO_int, dataO_int, isListO_int, isTupO_int, objOf_int, fldR_int, isIc_int_int, isIc_bool_int, isIc_str_int, esc_str, cont_str, asgD_str, retD_str, ownO_str, ownC_str, objO_str, bListO_str, ixO_str, lenO_str, slO_str, itO_str, dataO_str, isListO_str, isTupO_str, objOf_str, fldR_str, isIc_int_str, isIc_bool_str, isIc_str_str, esc_tup, cont_tup, asgD_tup, retD_tup, ownO_tup, ownC_tup, objO_tup, seqO_tup, ixO_tup, lenO_tup, bListO_tup, slO_tup, itO_tup, dataO_tup, isListO_tup, isTupO_tup, objOf_tup, fldR_tup, esc_lst, cont_lst, asgD_lst, retD_lst, ownO_lst, ownC_lst, lstO_lst, objO_lst, seqO_lst, ixO_lst, lenO_lst, bListO_lst, slO_lst, itO_lst, dataO_lst, isListO_lst, isTupO_lst, objOf_lst, fldR_lst, esc_dct, cont_dct, asgD_dct, retD_dct, ownO_dct, ownC_dct, dctO_dct, objO_dct, ixK_dct, dataO_dct, objOf_dct, fldR_dct, esc_obj, cont_obj, asgD_obj, retD_obj, ownO_obj, ownC_obj, objO_obj, dataO_obj, objOf_obj, fldR_obj, esc_olst, cont_olst, asgD_olst, retD_olst, ownO_olst, ownC_olst, lstO_olst, objO_olst, seqO_olst, ixO_olst, lenO_olst, bListO_olst, slO_olst, itO_olst, dataO_olst, isListO_olst, isTupO_olst, objOf_olst, fldR_olst, esc_odct, cont_odct, asgD_odct, retD_odct, ownO_odct, ownC_odct, dctO_odct, objO_odct, ixK_odct, dataO_odct, objOf_odct, fldR_odct, esc_oobj, cont_oobj, asgD_oobj, retD_oobj, ownO_oobj, ownC_oobj, objO_oobj, dataO_oobj, objOf_oobj, fldR_oobj, esc_loc, cont_loc, asgD_loc, retD_loc, ownO_loc, ownC_loc, objO_loc, dataO_loc, objOf_loc, fldR_loc, esc_sref, cont_sref, asgD_sref, retD_sref, ownO_sref, ownC_sref, objO_sref, dataO_sref, objOf_sref, fldR_sref, cont_fref, asgD_fref, ownO_fref, ownC_fref, objO_fref, dataO_fref, objOf_fref, fldR_fref, cont_hid, ownO_hid, ownC_hid, objO_hid, objOf_hid, cont_dead, ownO_dead, ownC_dead, objO_dead, dataO_dead, objOf_dead, fldR_dead, esc_scr, cont_scr, asgD_scr, retD_scr, ownO_scr, ownC_scr, objO_scr, ixO_scr, lenO_scr, itO_scr, dataO_scr, objOf_scr, fldR_scr, esc_exc, cont_exc, asgD_exc, retD_exc, ownO_exc, ownC_exc, objO_exc, dataO_exc, objOf_exc, fldR_exc, isIc_ownx, isIc_verrx, isIc_own_obj, isIc_own_int, isIc_own_str, isIc_own_bl, isIc_own_non, isIc_list, isIc_tuple, anyIc_nil, anyIc_t, anyIc_f, ownAt_slot, ownAt_cell, ownAt_fld, ownF_oobj, escO_olst, escO_odct, escO_oobj, retO_olst, retO_odct, retO_oobj, asLst_eq, asDct_eq, asObj_eq, asSeq_eq, ixD_int, ixD_str, len_eq, bint_int, bint_bl, bint_str, bstr_int, blist_eq, bdict_eq, bmax_eq, bmin_eq, bsum_eq, slD_eq, srcIt_eq, srcs_it, srcs_rng1, srcs_rng2, srcs_enu, hide_none, nms_nil, nms_no, nms_sref, nms_loc, nms_fref, hide_one, hideO_olst, unhide_none, unhide_some, unhideO_hid, put_slot, put_cell, app_eq, appO_olst, ext_eq, extO_olst, pop_eq, popO_snoc, clr_eq, clrO_olst, ins_eq, split_eq, split2_eq, starts_eq, join_eq, rk_join, rk_split, rk_starts, rk_append, rk_extend, rk_insert, rk_pop, rk_clear, rk_index, setI, setK, nmW_some, stKO_odct, joinO_some, b_addI, b_subI, b_mulI, b_fdivI, b_modI, b_powI, b_shrI, b_addS, b_addT, b_addL, addLO_some, b_mulL, mulLO_some, stIO_w, hF_no, hF_calm, iW_t, iW_f, atI_0, ixN_0, atI_1, ixN_1, atI_2, ixN_2, atI_3, ixN_3, atI_4, ixN_4, atI_5, ixN_5, atI_6, ixN_6, atI_7, ixN_7, noOwn_nil, noOwn_cons, slotFree_none, slotFree_some, wipe_nil, wipe_cons, restore_nil, restore_cons, join_some, ↓wE_lcW, evS_w, evE_w, condBn, condB_w, fldPut_w, fpO_oobj, fput_nil, fput_cons, setF_sref, setF_loc_t, setF_loc_f, bind_one, bind_many, setAll_nil, setAll_cons, oWmap, inD_eq, inO_str, inO_dct, inO_odct, inO_tup, inO_lst, inO_olst, eqv_int, eqv_str, eqv_bl, eqv_non, eqv_nonint, eqv_intnon, eqv_nonstr, eqv_strnon, eqv_strint, eqv_intstr, eqv_tup, eqv_lst, cmp_lt, cmp_le, cmp_gt, cmp_ge, cmp_eq, cmp_ne, cmp_in, cmp_nin, eqD_eq, eqO2_int, eqO2_str, eqO2_bl, $a,*])
/-- ['_law_k', '_law_words', '_law_number'] -/
def l_raised : Fn := ⟨3, 3, false, (.seq (.ifs (.cmp .eq (.var 0) (.int 0)) (.seq (.raise 1 (.cons (.var 2) (.cons (.bin .add (.var 2) (.int 1)) .nil))) .skip) .skip) (.seq (.ifs (.cmp .eq (.var 0) (.int 1)) (.seq (.raise 2 (.cons (.lst (.cons (.str [97]) (.cons (.var 1) .nil))) (.cons (.ife (.cmp .eq (.bin .mod (.var 2) (.int 2)) (.int 0)) .non (.str [120])) .nil))) .skip) .skip) (.seq (.ifs (.cmp .eq (.var 0) (.int 2)) (.seq (.raise 3 (.cons (.var 1) .nil)) .skip) .skip) (.seq (.ifs (.cmp .eq (.var 0) (.int 3)) (.seq (.raise 4 (.cons (.var 1) .nil)) .skip) .skip) (.seq (.ifs (.cmp .eq (.var 0) (.int 4)) (.seq (.raise 5 (.cons (.var 1) .nil)) .skip) .skip) (.seq (.ifs (.cmp .eq (.var 0) (.int 5)) (.seq (.raise 6 (.cons (.var 1) .nil)) .skip) .skip) (.seq (.ret (.var 0)) .skip)))))))⟩
/-- ['_law_e', '_law_first'] -/
def l_kinds : Fn := ⟨1, 2, false, (.seq (.asg 1 (.lst (.cons (.isi (.var 0) [.own 1]) (.cons (.isi (.var 0) [.own 2]) (.cons (.isi (.var 0) [.own 3]) .nil))))) (.seq (.ret (.bin .add (.var 1) (.lst (.cons (.isi (.var 0) [.own 4]) (.cons (.isi (.var 0) [.own 5]) (.cons (.isi (.var 0) [.own 6]) .nil)))))) .skip))⟩
/-- ['_law_e'] -/
def l_field : Fn := ⟨1, 1, false, (.seq (.ifs (.isi (.var 0) [.own 1]) (.seq (.ret (.tup (.cons (.fld (.var 0) 0) (.cons (.fld (.var 0) 1) .nil)))) .skip) .skip) (.seq (.ifs (.isi (.var 0) [.own 2]) (.seq (.ret (.tup (.cons (.fld (.var 0) 2) (.cons (.fld (.var 0) 3) .nil)))) .skip) .skip) (.seq (.ret .non) .skip)))⟩
/-- ['_law_k', '_law_words', '_law_number', '_law_told', '_law_e', '_law_field_here', '_law_other'] -/
def l_good : Fn := ⟨3, 7, false, (.seq (.asg 3 (.tup (.cons (.lst .nil) (.cons (.tup .nil) (.cons (.bl false) .nil))))) (.seq (.tryS (.seq (.expr (.call 200 (.cons (.var 0) (.cons (.var 1) (.cons (.var 2) .nil))))) .skip) 0 (some 4) (.seq (.asg 3 (.tup (.cons (.call 201 (.cons (.var 4) .nil)) (.cons (.call 202 (.cons (.var 4) .nil)) (.cons (.isi (.var 4) [.verr]) .nil))))) .skip)) (.seq (.asg 5 .non) (.seq (.ifs (.cmp .eq (.var 0) (.int 0)) (.seq (.asg 5 (.tup (.cons (.var 2) (.cons (.bin .add (.var 2) (.int 1)) .nil)))) .skip) .skip) (.seq (.ifs (.cmp .eq (.var 0) (.int 1)) (.seq (.asg 5 (.tup (.cons (.lst (.cons (.str [97]) (.cons (.var 1) .nil))) (.cons (.ife (.cmp .eq (.bin .mod (.var 2) (.int 2)) (.int 0)) .non (.str [120])) .nil)))) .skip) .skip) (.seq (.ret (.cmp .eq (.var 3) (.tup (.cons (.lc (.cmp .eq (.var 6) (.var 0)) (.one 6) [6] .rng1 (.cons (.int 6) .nil) .nil) (.cons (.var 5) (.cons (.bl true) .nil)))))) .skip))))))⟩
/-- ['_law_script', '_law_words', '_law_number', '_law_k'] -/
def l_law : Fn := ⟨1, 4, false, (.seq (.asg 1 (.str [])) (.seq (.asg 2 (.int 0)) (.seq (.ifs (.cmp .gt (.bi .len (.cons (.var 0) .nil)) (.int 0)) (.seq (.asg 1 (.bi .str (.cons (.bin .mod (.ix (.var 0) (.int 0)) (.bin .pow (.int 10) (.int 9))) .nil))) (.seq (.asg 2 (.bin .mod (.ix (.var 0) (.bin .fdiv (.bi .len (.cons (.var 0) .nil)) (.int 2))) (.bin .pow (.int 10) (.int 18)))) .skip)) .skip) (.seq (.fors (.one 3) .rng1 (.cons (.int 6) .nil) (.seq (.ifs (.or (.not (.call 203 (.cons (.var 3) (.cons (.var 1) (.cons (.var 2) .nil))))) (.not (.call 203 (.cons (.var 3) (.cons (.str []) (.cons (.int 0) .nil)))))) (.seq (.ret (.bl false)) .skip) .skip) .skip)) (.seq (.ret (.bl true)) .skip)))))⟩

/-- the refusals' classes: which is which -/
def SubOk (T : Tb) (a : Nat) : Prop := T.sub a 0 = true ∧ T.sub a 99 = true ∧ T.sub a 1 = decide (a = 1) ∧ T.sub a 2 = decide (a = 2) ∧ T.sub a 3 = decide (a = 3) ∧ T.sub a 4 = decide (a = 4) ∧ T.sub a 5 = decide (a = 5) ∧ T.sub a 6 = decide (a = 6)
def flds (i : Nat) (w : Tx) (n : Int) : List (Nat × D) := match i with
  | 0 => [(0, .int n), (1, .int (n + 1))]
  | 1 => [(2, .lst [.str [97], .str w]), (3, if n % 2 = 0 then .non else .str [120])]
  | _ => []
def fldD (i : Nat) (w : Tx) (n : Int) : D := match i with
  | 0 => .tup [.int n, .int (n + 1)]
  | 1 => .tup [.lst [.str [97], .str w], if n % 2 = 0 then .non else .str [120]]
  | _ => .non
theorem all2_refl {n : Nat} (h : ∀ x, dat n x = true → eqv n x x = true) : ∀ xs : List D, xs.all (dat n) = true → all2 (eqv n) xs xs = true
  | [], _ => rfl
  | x :: xs, q => by
    rw [List.all_cons, Bool.and_eq_true] at q
    rw [all2, h x q.1, all2_refl h xs q.2]
    rfl
theorem eqv_refl : ∀ (n : Nat) (x : D), dat n x = true → eqv n x x = true
  | 0, x, h => by simp [dat] at h
  | n + 1, x, h => by
    have ih := eqv_refl n
    cases x with
    | tup ds =>
      have h : ds.all (dat n) = true := h
      show all2 (eqv n) ds ds = true
      exact all2_refl ih ds h
    | lst ds =>
      have h : ds.all (dat n) = true := h
      show all2 (eqv n) ds ds = true
      exact all2_refl ih ds h
    | non => rfl
    | bl b => show (b == b) = true; simp
    | int b => show (b == b) = true; simp
    | str b => show (b == b) = true; simp
    | _ => simp [dat] at h
theorem eqO2_refl {x : D} (h : dat 20 x = true) : eqO2 (some x) (some x) = some true := by
  unfold eqO2
  dsimp only
  rw [h, eqv_refl 20 x h]
  rfl
theorem raised_ok {T : Tb} {k i : Nat} {w : Tx} {n : Int} {sto : List D} (h : T.fn 200 = some l_raised) (hx : T.exn 1 = some [0, 1] ∧ T.exn 2 = some [2, 3] ∧ T.exn 3 = some [] ∧ T.exn 4 = some [] ∧ T.exn 5 = some [] ∧ T.exn 6 = some []) (hi : i < 6) :
    evFn T (k + 1) false 200 [.int (i : Int), .str w, .int n] sto = .exc (i + 1) (flds i w n) ⟨[], sto⟩ := by
  refine fn_eq h rfl rfl ?_
  simp only [l_raised, List.map_cons, List.map_nil, List.cons_append, List.nil_append, List.replicate_succ, List.replicate_zero, Nat.reduceSub]
  obtain ⟨x1, x2, x3, x4, x5, x6⟩ := hx
  have c : i = 0 ∨ i = 1 ∨ i = 2 ∨ i = 3 ∨ i = 4 ∨ i = 5 := by omega
  rcases c with e | e | e | e | e | e
  all_goals subst e
  · simp! [show ((0 : Nat) : Int) = 0 from rfl, x1]
    rfl
  · by_cases q : n % 2 = 0
    · simp! [show ((1 : Nat) : Int) = 1 from rfl, x2, decide_eq_true q]
      simp only [flds, if_pos q]
      rfl
    · simp! [show ((1 : Nat) : Int) = 1 from rfl, x2, decide_eq_false q]
      simp only [flds, if_neg q]
      rfl
  · simp! [show ((2 : Nat) : Int) = 2 from rfl, x3]
    rfl
  · simp! [show ((3 : Nat) : Int) = 3 from rfl, x4]
    rfl
  · simp! [show ((4 : Nat) : Int) = 4 from rfl, x5]
    rfl
  · simp! [show ((5 : Nat) : Int) = 5 from rfl, x6]
    rfl
def kindsD (i : Nat) : List D := (List.range 6).map fun j => .bl (decide (j = i))
theorem kinds_ok {T : Tb} {k i : Nat} {fs : List (Nat × D)} {sto : List D} (h : T.fn 201 = some l_kinds) (s : SubOk T (i + 1)) (hi : i < 6) : evFn T (k + 1) false 201 [.exc (i + 1) fs] sto = .ok (.olst (kindsD i)) ⟨[], sto⟩ := by
  refine fn_eq h rfl rfl ?_
  simp only [l_kinds, List.map_cons, List.map_nil, List.cons_append, List.nil_append, List.replicate_succ, List.replicate_zero, Nat.reduceSub]
  obtain ⟨s0, s9, s1, s2, s3, s4, s5, s6⟩ := s
  have c : i = 0 ∨ i = 1 ∨ i = 2 ∨ i = 3 ∨ i = 4 ∨ i = 5 := by omega
  rcases c with e | e | e | e | e | e
  all_goals
    subst e
    simp! [s1, s2, s3, s4, s5, s6]
    rfl
theorem field_ok {T : Tb} {k i : Nat} {w : Tx} {n : Int} {sto : List D} (h : T.fn 202 = some l_field) (s : SubOk T (i + 1)) (hi : i < 6) : evFn T (k + 1) false 202 [.exc (i + 1) (flds i w n)] sto = .ok (fldD i w n) ⟨[], sto⟩ := by
  refine fn_eq h rfl rfl ?_
  simp only [l_field, List.map_cons, List.map_nil, List.cons_append, List.nil_append, List.replicate_succ, List.replicate_zero, Nat.reduceSub]
  obtain ⟨s0, s9, s1, s2, s3, s4, s5, s6⟩ := s
  have c : i = 0 ∨ i = 1 ∨ i = 2 ∨ i = 3 ∨ i = 4 ∨ i = 5 := by omega
  rcases c with e | e | e | e | e | e
  all_goals subst e
  · simp! [s1, flds]
    rfl
  · by_cases q : n % 2 = 0
    · simp only [flds, if_pos q, fldD]
      simp! [s1, s2]
      rw [if_pos q]
    · simp only [flds, if_neg q, fldD]
      simp! [s1, s2]
      rw [if_neg q]
  all_goals
    simp! [s1, s2, flds]
    rfl
structure LT (T : Tb) : Prop where
  h200 : T.fn 200 = some l_raised
  h201 : T.fn 201 = some l_kinds
  h202 : T.fn 202 = some l_field
  h203 : T.fn 203 = some l_good
  hx : T.exn 1 = some [0, 1] ∧ T.exn 2 = some [2, 3] ∧ T.exn 3 = some [] ∧ T.exn 4 = some [] ∧ T.exn 5 = some [] ∧ T.exn 6 = some []
  s : ∀ i, i < 6 → SubOk T (i + 1)
theorem dat_kinds {i : Nat} : dat 19 (.lst (kindsD i)) = true := by
  simp [kindsD, dat]
theorem dat_fld {i : Nat} {w : Tx} {n : Int} : dat 19 (fldD i w n) = true := by
  unfold fldD
  split
  · rfl
  · split <;> rfl
  · rfl
theorem good_ok {T : Tb} {k i : Nat} {w : Tx} {n : Int} {sto : List D} (L : LT T) (hi : i < 6) : evFn T (k + 2) false 203 [.int (i : Int), .str w, .int n] sto = .ok (.bl true) ⟨[], sto⟩ := by
  refine fn_eq L.h203 rfl rfl ?_
  simp only [l_good, List.map_cons, List.map_nil, List.cons_append, List.nil_append, List.replicate_succ, List.replicate_zero, Nat.reduceSub]
  have h200 := L.h200
  have h201 := L.h201
  have h202 := L.h202
  have s := L.s i hi
  have r := raised_ok (k := k) (w := w) (n := n) (sto := sto) h200 L.hx hi
  have kd := kinds_ok (k := k) (fs := flds i w n) (sto := sto) h201 s hi
  have fd := field_ok (k := k) (w := w) (n := n) (sto := sto) h202 s hi
  obtain ⟨s0, s9, _⟩ := s
  have key : ∀ d, d = fldD i w n → eqO2 (some (.tup [.lst (kindsD i), fldD i w n, .bl true])) (some (.tup [.lst ((List.range 6).map fun j : Nat => D.bl (decide ((j : Int) = (i : Int)))), d, .bl true])) = some true := fun d e => by
    have e2 : ((List.range 6).map fun j : Nat => D.bl (decide ((j : Int) = (i : Int)))) = kindsD i := List.map_congr_left fun j _ => by
      congr 1
      exact decide_eq_decide.mpr (by omega)
    rw [e, e2]
    refine eqO2_refl ?_
    simp only [dat, List.all_cons, List.all_nil, Bool.and_true]
    rw [show (kindsD i).all (dat 18) = true from dat_kinds, show dat 19 (fldD i w n) = true from dat_fld]
    rfl
  have c : i = 0 ∨ i = 1 ∨ 2 ≤ i := by omega
  have hesc : ∀ s, esc s (fldD i w n) = .ok (fldD i w n) s := fun s => by
    unfold fldD
    split <;> rfl
  have tail : ∀ (d : D), d = fldD i w n → owned d = false → ∀ o3 o4, (o3 = .tup [.lst (kindsD i), fldD i w n, .bl true]) → wS T (evFn T (k + 1)) (.seq (.ret (.cmp .eq (.var 3) (.tup (.cons (.lc (.cmp .eq (.var 6) (.var 0)) (.one 6) [6] .rng1 (.cons (.int 6) .nil) .nil) (.cons (.var 5) (.cons (.bl true) .nil)))))) .skip)
      ⟨[some (.int (i : Int)), some (.str w), some (.int n), some o3, o4, some d, none], sto⟩ (fun s => R.ok (D.bl true) { env := [], sto := sto } = R.ok D.non { env := [], sto := s.sto })
      { brk := fun x => False, cnt := fun x => False, ret := fun d s => R.ok (D.bl true) { env := [], sto := sto } = R.ok d { env := [], sto := s.sto }, exc := fun c fs s => R.ok (D.bl true) { env := [], sto := sto } = R.exc c fs { env := [], sto := s.sto } } := fun d hd ho o3 o4 h3 => by
    subst h3
    simp!
    refine lcW_w _ (fun j acc s => acc = ((List.range j).map fun j : Nat => D.bl (decide ((j : Int) = (i : Int)))) ∧ ∃ o6, slotFree (some o6) = true ∧ s = ⟨[some (.int (i : Int)), some (.str w), some (.int n), some (.tup [.lst (kindsD i), fldD i w n, .bl true]), o4, some d, o6], sto⟩) (fun acc s hs => ?_) (fun j x acc s hx hs => ?_) ⟨rfl, _, rfl, rfl⟩
    · obtain ⟨rfl, o6, h6, e⟩ := hs
      subst e
      have kk := key d hd
      rw [show (rng 0 6).length = 6 from rfl]
      have hv : ∀ Q : D → Prop, vW (some (some d)) 5 Q = Q d := fun Q => by
        rw [vW_some, ho]
        rfl
      have he : ∀ s, esc s d = .ok d s := fun s => by rw [hd]; exact hesc s
      simp! [hv, he, kk]
    · obtain ⟨rfl, o6, h6, e⟩ := hs
      subst e
      obtain ⟨e, hj⟩ := rng_get hx
      rw [Int.zero_add] at e
      subst e
      simp! [List.length_map, List.length_range]
      exact ⟨by unfold lim; omega, by rw [List.range_succ, List.map_append]; rfl, _, rfl, rfl⟩
  generalize hR : S.seq (.ret (.cmp .eq (.var 3) (.tup (.cons (.lc (.cmp .eq (.var 6) (.var 0)) (.one 6) [6] .rng1 (.cons (.int 6) .nil) .nil) (.cons (.var 5) (.cons (.bl true) .nil)))))) .skip = R at tail ⊢
  rcases c with c | c | c
  · have e0 : decide ((i : Int) = 0) = true := decide_eq_true (by omega)
    have e1 : decide ((i : Int) = 1) = false := decide_eq_false (by omega)
    simp! [h200, r, s0, h201, kd, h202, fd, s9, hesc, e0, e1]
    exact tail _ (by rw [c]; rfl) rfl _ _ rfl
  · have e0 : decide ((i : Int) = 0) = false := decide_eq_false (by omega)
    have e1 : decide ((i : Int) = 1) = true := decide_eq_true (by omega)
    by_cases q : n % 2 = 0
    · simp! [h200, r, s0, h201, kd, h202, fd, s9, hesc, e0, e1, decide_eq_true q]
      exact tail _ (by rw [c]; simp only [fldD, if_pos q]) rfl _ _ rfl
    · simp! [h200, r, s0, h201, kd, h202, fd, s9, hesc, e0, e1, decide_eq_false q]
      exact tail _ (by rw [c]; simp only [fldD, if_neg q]) rfl _ _ rfl
  · have e0 : decide ((i : Int) = 0) = false := decide_eq_false (by omega)
    have e1 : decide ((i : Int) = 1) = false := decide_eq_false (by omega)
    obtain ⟨j, rfl⟩ : ∃ j, i = j + 2 := ⟨i - 2, by omega⟩
    simp! [h200, r, s0, h201, kd, h202, fd, s9, hesc, e0, e1]
    exact tail _ rfl rfl _ _ rfl
theorem law_ok {T : Tb} {k : Nat} {ns : List Int} (L : LT T) (h204 : T.fn 204 = some l_law) : ∃ s', evFn T (k + 3) false 204 [.scr ns] [] = .ok (.bl true) s' := by
  refine ⟨_, fn_eq (r := .ok (.bl true) ⟨[], []⟩) h204 rfl rfl ?_⟩
  simp only [l_law, List.map_cons, List.map_nil, List.cons_append, List.nil_append, List.replicate_succ, List.replicate_zero, Nat.reduceSub]
  have h203 := L.h203
  have key : ∀ (i : Nat) w n, i < 6 → evFn T (k + 2) false 203 [.int (i : Int), .str w, .int n] [] = .ok (.bl true) ⟨[], []⟩ := fun i w n hi => good_ok L hi
  have tail : ∀ w n, wS T (evFn T (k + 2)) (.seq (.fors (.one 3) .rng1 (.cons (.int 6) .nil) (.seq (.ifs (.or (.not (.call 203 (.cons (.var 3) (.cons (.var 1) (.cons (.var 2) .nil))))) (.not (.call 203 (.cons (.var 3) (.cons (.str []) (.cons (.int 0) .nil)))))) (.seq (.ret (.bl false)) .skip) .skip) .skip)) (.seq (.ret (.bl true)) .skip))
      ⟨[some (.scr ns), some (.str w), some (.int n), none], []⟩ (fun s => R.ok (D.bl true) { env := [], sto := [] } = R.ok D.non { env := [], sto := s.sto })
      { brk := fun x => False, cnt := fun x => False, ret := fun d s => R.ok (D.bl true) { env := [], sto := [] } = R.ok d { env := [], sto := s.sto }, exc := fun c fs s => R.ok (D.bl true) { env := [], sto := [] } = R.exc c fs { env := [], sto := s.sto } } := fun w n => by
    simp!
    refine forL_w _ (fun i s => ∃ o3, slotFree (some o3) = true ∧ s = ⟨[some (.scr ns), some (.str w), some (.int n), o3], []⟩) (fun s hs2 => ?_) (fun i d s hd hs2 => ?_) ⟨_, rfl, rfl⟩
    · obtain ⟨o3, h3, e⟩ := hs2
      subst e
      simp!
    · obtain ⟨o3, h3, e⟩ := hs2
      subst e
      obtain ⟨e, hi⟩ := rng_get hd
      rw [Int.zero_add] at e
      subst e
      have k1 := key i w n (by omega)
      have k2 := key i [] 0 (by omega)
      simp! [h203, k1, k2]
      exact ⟨_, rfl, rfl⟩
  generalize hR : S.seq (.fors _ _ _ _) _ = R at tail ⊢
  by_cases hl : 0 < (ns.length : Int)
  · obtain ⟨c0, hc0, _⟩ := at_ex (xs := ns) (i := 0) (by omega) hl
    obtain ⟨c1, hc1, _⟩ := at_ex (xs := ns) (i := (ns.length : Int) / 2) (by omega) (by omega)
    simp! [hl, hc0, hc1]
    exact ⟨⟨by omega, by omega⟩, tail _ _⟩
  · simp! [hl]
    exact tail _ _
end K09
end
section
set_option maxHeartbeats 0
set_option maxRecDepth 100000
set_option linter.all false
namespace K09
open PySem L2 TR
abbrev Rw : PySem.W.OpenRow := PySem.W.OpenLaw.row PySem.Challenge.rw_tintrow_k09_refusals_apart
def top (i : Nat) : Stmt := PySem.Challenge.pw_tintrow_k09_refusals_apart.main.body.getD i (.Pass ⟨0, 0, 0, 0⟩)
def mem (i j : Nat) : Stmt := match top i with
  | .ClassDef _ _ _ b _ _ _ _ _ _ _ => b.getD j (.Pass ⟨0, 0, 0, 0⟩)
  | _ => .Pass ⟨0, 0, 0, 0⟩
def f0 : FE := ⟨200, ("_law_raised", none), "_law_raised", "_law_raised", top 9, ["_law_k", "_law_words", "_law_number"], ["_law_k", "_law_words", "_law_number"], l_raised⟩
def f1 : FE := ⟨201, ("_law_kinds", none), "_law_kinds", "_law_kinds", top 10, ["_law_e", "_law_first"], ["_law_e"], l_kinds⟩
def f2 : FE := ⟨202, ("_law_field", none), "_law_field", "_law_field", top 11, ["_law_e"], ["_law_e"], l_field⟩
def f3 : FE := ⟨203, ("_law_good", none), "_law_good", "_law_good", top 12, ["_law_k", "_law_words", "_law_number", "_law_told", "_law_e", "_law_field_here", "_law_other"], ["_law_k", "_law_words", "_law_number"], l_good⟩
def f4 : FE := ⟨204, ("law", none), "law", "law", top 13, ["_law_script", "_law_words", "_law_number", "_law_k"], ["_law_script"], l_law⟩
def fes0 : List FE := [f0, f1, f2, f3, f4]
def fes : List FE := fes0
def mt0 : List (Nat × Nat × Nat) := []
def mt : List (Nat × Nat × Nat) := mt0
def inis : List (Nat × Option Nat) := []
def subs : List (Nat × Nat) := [(0, 0), (1, 1), (1, 0), (2, 2), (2, 0), (3, 3), (3, 0), (4, 4), (4, 0), (5, 5), (5, 0), (6, 6), (6, 0), (0, 99), (1, 99), (2, 99), (3, 99), (4, 99), (5, 99), (6, 99)]
def globs : List (Nat × D) := []
def gcm : List Nat := []
def fx0 : FE := ⟨0, ("NoRules", some "__init__"), "__init__", "NoRules.__init__", mem 2 0, ["self", "row", "word"], ["self", "row", "word"], ⟨3, 3, false, .skip⟩⟩
def fx1 : FE := ⟨1, ("Rings", some "__init__"), "__init__", "Rings.__init__", mem 3 0, ["self", "ring", "sign"], ["self", "ring", "sign"], ⟨3, 3, false, .skip⟩⟩
def exns : List (Nat × List Nat) := [(0, []), (1, [0, 1]), (2, [2, 3]), (3, []), (4, []), (5, []), (6, [])]
def hxl : List Nat := [0, 1, 2, 3, 4, 5, 6]
def xis : List XI := [⟨1, fx0, "TintError", 0, 1⟩, ⟨2, fx1, "TintError", 2, 3⟩]
def an0 : List Str := ["row", "word", "ring", "sign", "signs", "pattern", "colour", "deed", "goal", "fold"]
def an1 : List Str := ["name", "rules", "modes", "words", "at", "row_text", "shades", "behind", "fold_list", "kept"]
def an2 : List Str := ["tinted", "spots", "deeds_done", "deeds_undone", "rules_there", "scribe_there"]
def an : List Str := an0 ++ an1 ++ an2
def fnl : List (Nat × Str) := [(200, "_law_raised"), (201, "_law_kinds"), (202, "_law_field"), (203, "_law_good"), (204, "law")]
def mn0 : List Str := ["eaten", "eats", "told", "more", "next_word", "read_name", "one_of", "read_signs", "over", "go_over"]
def mn1 : List Str := ["modes_now", "go_on", "change", "kept_row", "ask_place", "ask_part", "put", "cut", "part", "rows"]
def mn2 : List Str := ["begin", "colours", "marks", "keep", "undo", "redo", "set_mark", "drop_mark", "text", "folds"]
def mn3 : List Str := ["say", "moved", "shown", "length", "hidden"]
def mn : List Str := mn0 ++ mn1 ++ mn2 ++ mn3
def cn0 : List Str := ["TintError", "NoRules", "Rings", "NoPlace", "Nothing", "NoMark", "NoLine", "Pattern", "Word", "One"]
def cn1 : List Str := ["Without", "Many", "Any", "Still", "End", "Rule", "Mode", "Rules", "Words", "Kept"]
def cn2 : List Str := ["Tinted", "Scribe", "Desk"]
def cn : List Str := cn0 ++ cn1 ++ cn2
def gnl : List (Nat × Str) := []
def hcl : List Nat := []
def hsl : List Nat := [201, 202]
def rd : RowD := ⟨fes, mt, inis, subs, globs, gcm, exns, an, fnl, mn, cn, gnl, hcl, hxl, xis, hsl⟩
theorem pl0 : RowD.PlB f0 := fun kV doc pm an cdv ct us hl => match us, hl with
  | [_, _, _], _ => by kernel_rfl
theorem pl1 : RowD.PlB f1 := fun kV doc pm an cdv ct us hl => match us, hl with
  | [_], _ => by kernel_rfl
theorem pl2 : RowD.PlB f2 := fun kV doc pm an cdv ct us hl => match us, hl with
  | [_], _ => by kernel_rfl
theorem pl3 : RowD.PlB f3 := fun kV doc pm an cdv ct us hl => match us, hl with
  | [_, _, _], _ => by kernel_rfl
theorem pl4 : RowD.PlB f4 := fun kV doc pm an cdv ct us hl => match us, hl with
  | [_], _ => by kernel_rfl
theorem plx0 : RowD.PlB fx0 := fun kV doc pm an cdv ct us hl => match us, hl with
  | [_, _, _], _ => by kernel_rfl
theorem plx1 : RowD.PlB fx1 := fun kV doc pm an cdv ct us hl => match us, hl with
  | [_, _, _], _ => by kernel_rfl
theorem pl : ∀ e ∈ rd.all, RowD.PlB e := RowD.pl_cons pl0 (RowD.pl_cons pl1 (RowD.pl_cons pl2 (RowD.pl_cons pl3 (RowD.pl_cons pl4 (RowD.pl_cons plx0 (RowD.pl_cons plx1 (RowD.pl_nil)))))))
def loose0 : List Str := ["TintError", "NoRules", "Rings", "NoPlace", "Nothing", "NoMark", "NoLine", "_law_raised", "_law_kinds", "_law_field"]
def loose1 : List Str := ["_law_good"]
def loose : List Str := loose0 ++ loose1
theorem run (w : World) : HandSHeadRun.RunEq Rw (PySem.W.view Rw.prog [13]) (RowD.hook rd) (RowD.ob rd) 6000 loose w := by
  intro os
  kernel_rfl
theorem okS : RowD.okS rd = true := by decide +kernel
theorem plain : ∀ ns : List Int, ns.length ≤ 63 → ∃ s', evFn rd.T 40 false f4.id [.scr ns] [] = .ok (.bl true) s' := fun ns hn => law_ok (T := rd.T) (k := 37) ⟨rfl, rfl, rfl, rfl, ⟨rfl, rfl, rfl, rfl, rfl, rfl⟩, fun i hi => by
  have c : i = 0 ∨ i = 1 ∨ i = 2 ∨ i = 3 ∨ i = 4 ∨ i = 5 := by omega
  rcases c with e | e | e | e | e | e <;> subst e <;> exact ⟨rfl, rfl, rfl, rfl, rfl, rfl, rfl, rfl⟩⟩ rfl
end K09
end
set_option maxRecDepth 100000
set_option maxHeartbeats 0
open PySem PySem.W PySem.Calls PyProof.Rows
theorem PySem.Challenge.cw_tintrow_k09_refusals_apart_holds : PySem.Challenge.rw_tintrow_k09_refusals_apart.Holds := by
  w_on; o_law
  refine HandSHeadRun.head_any (r := OpenLaw.row PySem.Challenge.rw_tintrow_k09_refusals_apart) (q := view (OpenLaw.row PySem.Challenge.rw_tintrow_k09_refusals_apart).prog [13]) (H := TR.RowD.hook K09.rd) (ob := TR.RowD.ob K09.rd) (M := 6000) (loose := K09.loose) (d := HandSHeadRun.topDef (OpenLaw.row PySem.Challenge.rw_tintrow_k09_refusals_apart).prog 13) (kwd := []) (TR.RowD.ob_eq K09.rd)
    (by kernel_rfl) (fun s => by kernel_rfl) K09.run (by kernel_rfl) (by kernel_rfl) (by kernel_rfl) (by rfl) (by first | assumption | decide +kernel) (by decide +kernel) ⟨rfl, rfl, rfl, rfl, rfl, by decide +kernel⟩ ?hw ?hc
  case hw => w_witness2
  case hc =>
    exact TR.RowD.law_end (r := K09.rd) (j := 40) (i := 4) (e := K09.f4) rfl (by kernel_rfl) rfl rfl (by kernel_rfl) rfl ⟨rfl, by decide, by decide⟩ K09.okS K09.pl K09.plain (by decide +kernel)
