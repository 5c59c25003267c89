import PyProof.Rows.All
import HandS.ForMost
import HandS.TupSets
import PyProof.ReprReads
import HandS.Wide
import HandS.WideBits
import HandS.Style
import HandS.NoneIn
import HandS.Conv
import HandS.IsInst
import HandS.Deep
import HandS.Flow
import HandS.RaiseMore
import HandS.Codes
import PyProof.ReprLen
import PySem.Challenge.RW_tallywright_k50_whole_lists_that_slip
import Wide.All
import OpenK.AllK
import Wide.FinOn
set_option Elab.async false
set_option linter.all false
set_option maxRecDepth 100000
section
set_option Elab.async false
set_option linter.all false
set_option maxRecDepth 100000
/-! TwEval: a small language of terms (T) for defs of the program, and a total evaluator over data (PyData). -/
namespace TW
open PySem

/-- a reference to a changing list, as a datum -/
def cel (i : Nat) : PyData := .dict [(.none, .int i)]
def celOf : PyData → Option Nat
  | .dict [(.none, .int (.ofNat i))] => some i
  | _ => none
theorem celOf_cel (i : Nat) : celOf (cel i) = some i := rfl
theorem of_celOf : ∀ {d : PyData} {i : Nat}, celOf d = some i → d = cel i := by
  intro d i h
  unfold celOf at h
  split at h
  · cases h; rfl
  · cases h

/-- a list of changing lists, as a name's datum (never an expression's) -/
def grD (js : List Nat) : PyData := .dict [(.bool false, .list (js.map fun (j : Nat) => .int (Int.ofNat j)))]
def isGr : PyData → Bool
  | .dict ((.bool false, _) :: _) => true
  | _ => false
def allNats : List PyData → Option (List Nat)
  | [] => some []
  | .int (.ofNat j) :: ds => (allNats ds).map (j :: ·)
  | _ :: _ => none
def grOf : PyData → Option (List Nat)
  | .dict [(.bool false, .list ds)] => allNats ds
  | _ => none
theorem isGr_grD (js : List Nat) : isGr (grD js) = true := rfl
theorem allNats_map : ∀ js : List Nat, allNats (js.map fun (j : Nat) => .int (Int.ofNat j)) = some js
  | [] => rfl
  | j :: js => by
    show (allNats (js.map fun (j : Nat) => .int (Int.ofNat j))).map (j :: ·) = _
    rw [allNats_map js]; rfl
theorem grOf_grD (js : List Nat) : grOf (grD js) = some js := allNats_map js
theorem of_allNats : ∀ {ds : List PyData} {js : List Nat}, allNats ds = some js → ds = js.map fun (j : Nat) => .int (Int.ofNat j)
  | [], js, h => by cases h; rfl
  | d :: ds, js, h => by
    unfold allNats at h
    split at h
    · next e => cases e
    · next j ds' e =>
      cases e
      obtain ⟨r, h1, h2⟩ := Option.map_eq_some_iff.mp h
      subst h2
      rw [of_allNats h1]; rfl
    · cases h
theorem of_grOf {d : PyData} {js : List Nat} (h : grOf d = some js) : d = grD js := by
  unfold grOf at h
  split at h
  · rw [of_allNats h]; rfl
  · cases h

/-- a changing list: 0 it may change, 1 it is walked, 2 it never changes any more -/
abbrev Cell := Nat × PyData
abbrev Sto := List Cell
abbrev Evn := List (Option PyData)

inductive Op where
  | add | sub | mul | fdiv | mod | pow | shl | shr | xor
  deriving DecidableEq
inductive Cp where
  | eq | ne | lt | le | gt | ge | isin | notin | is | isnot
  deriving DecidableEq
/-- built-in functions and types, called with one or two arguments -/
inductive Bi where
  | len | int | isInt | isBool | isList | isTuple | isStr | isDict | isLT | max2 | min2 | sum | list | tuple | all | any | repr | lenSet | divmod | sorted
  deriving DecidableEq
inductive Mt where
  | append | pop | popAt | index | bitLength | count
  deriving DecidableEq

inductive T where
  | var (k : Nat) | int (i : Int) | str (s : Str) | bl (b : Bool) | non | edict
  | bin (o : Op) (a b : T) | neg (a : T)
  | cmp (o : Cp) (a b : T) | chain (o p : Cp) (a b c : T)
  | and (a b : T) | or (a b : T) | not (a : T) | ite (c a b : T)
  | nil | cons (a b : T)
  | tup (es : T) | lst (es : T)
  | call (f : Nat) (rs : List Bool) (es : T)
  | callk (f : Nat) (perm : List Nat) (es : T)
  | bi (b : Bi) (es : T)
  | mt (m : Mt) (o es : T)
  | idx (a i : T) | sl (a lo hi : T) | slr (a hi : T)
  | lc (own : List Nat) (tg it ifs el : T)
  | thaw (e : T)
  | rng (es : T) | enumr (e : T) | zipr (a b : T) | lrng (es : T)
  -- statements
  | asg (tg e : T) | asgm (k : Nat) (e : T) | asgi (k : Nat) (i e : T)
  | parr (i j l : Nat) (a b : T) (own : List Nat) (tg it el : T) | asgii (k : Nat) (i j e : T) | retg (k : Nat)
  | par (ks : List (Nat × Bool)) (es : T)
  | ex (e : T) | ret (e : T) | retm (k : Nat) | retn | iff (c a b : T) | forr (tg it b : T) | whl (c b : T)
  | pas | brk | cnt | rais

/-! ### data -/
def line : Nat := 16777216
def peek (S : Sto) (d : PyData) : PyData :=
  match celOf d with
  | none => d
  | some i => match S[i]? with
    | some c => c.2
    | none => d
def settle (S : Sto) (d : PyData) : Option (PyData × Sto) :=
  match celOf d with
  | none => some (d, S)
  | some i => match S[i]? with
    | some (0, c) => some (c, S.set i (2, c))
    | some (2, c) => some (c, S)
    | _ => none
def settleAll : Sto → List PyData → Option (List PyData × Sto)
  | S, [] => some ([], S)
  | S, d :: ds => (settle S d).bind fun r => (settleAll r.2 ds).bind fun q => some (r.1 :: q.1, q.2)
/-- flags: true, a changing list is handed on as such -/
def settleBy : List Bool → Sto → List PyData → Option (List PyData × Sto)
  | _, S, [] => some ([], S)
  | true :: rs, S, d :: ds => (settleBy rs S ds).bind fun q => some (d :: q.1, q.2)
  | _ :: rs, S, d :: ds => (settle S d).bind fun r => (settleBy rs r.2 ds).bind fun q => some (r.1 :: q.1, q.2)
  | [], S, d :: ds => (settle S d).bind fun r => (settleBy [] r.2 ds).bind fun q => some (r.1 :: q.1, q.2)

def small64 (i : Int) : Bool := decide (i.natAbs < 2 ^ 64)
def mulOk (i j : Int) : Bool := small64 i || small64 j || decide (i.natAbs.log2 + j.natAbs.log2 < 1000000)
def divOk (j : Int) : Bool := decide (0 < j) && decide (j.natAbs.log2 < 9000)
def powOk (i j : Int) : Bool := decide (0 ≤ j) && ((decide (j ≤ 1000000) && small64 i) || (decide (j ≤ 64) && decide (i.natAbs.log2 < 9000)))
def shlOk (i j : Int) : Bool := decide (0 ≤ j) && decide (j ≤ 1000000) && small64 i
def addD : PyData → PyData → Option PyData
  | .int i, .int j => some (.int (i + j))
  | .list xs, .list ys => if xs.length + ys.length ≤ line then some (.list (xs ++ ys)) else none
  | .tuple xs, .tuple ys => if !xs.isEmpty && decide (xs.length + ys.length ≤ line) then some (.tuple (xs ++ ys)) else none
  | _, _ => none
def mulD : PyData → PyData → Option PyData
  | .int i, .int j => if mulOk i j then some (.int (i * j)) else none
  | .list xs, .int k => if decide (0 ≤ k) && decide (k < 2 ^ 63) && decide (xs.length * k.toNat ≤ line) then some (.list (List.replicate k.toNat xs).flatten) else none
  | _, _ => none
def intD (ok : Int → Int → Bool) (f : Int → Int → Int) : PyData → PyData → Option PyData
  | .int i, .int j => if ok i j then some (.int (f i j)) else none
  | _, _ => none
def subD : PyData → PyData → Option PyData
  | .int i, .int j => some (.int (i - j))
  | _, _ => none
def binD : Op → PyData → PyData → Option PyData
  | .add => addD
  | .sub => subD
  | .mul => mulD
  | .fdiv => intD (fun _ j => divOk j) fun i j => i / j
  | .mod => intD (fun _ j => decide (0 < j)) fun i j => i % j
  | .pow => intD powOk fun i j => i ^ j.toNat
  | .shl => intD shlOk fun i j => i * 2 ^ j.toNat
  | _ => fun _ _ => none
def isNon : PyData → Bool
  | .none => true
  | _ => false
def cmpI (f : Int → Int → Bool) : PyData → PyData → Option Bool
  | .int i, .int j => some (f i j)
  | _, _ => none
def eqS (a b : PyData) : Option Bool := if SeqAt.shaped a && SeqAt.shaped b then some (PyData.eqv a b) else none
def eqD : PyData → PyData → Option Bool
  | .str x, .str y => some (decide (x = y))
  | .int i, .int j => some (decide (i = j))
  | a, b => eqS a b
def inD (d : PyData) : PyData → Option Bool
  | .list ds => if SeqAt.shaped d && SeqAt.shaped (.list ds) then some (ds.any fun z => PyData.eqv z d) else none
  | _ => none
def isD : PyData → PyData → Option Bool
  | a, .none => some (isNon a)
  | .bool a, .bool b => some (decide (a = b))
  | _, _ => none
def cmpD : Cp → PyData → PyData → Option Bool
  | .eq, a, b => eqD a b
  | .ne, a, b => (eqD a b).map not
  | .lt, a, b => cmpI (fun i j => decide (i < j)) a b
  | .le, a, b => cmpI (fun i j => decide (i ≤ j)) a b
  | .gt, a, b => cmpI (fun i j => decide (j < i)) a b
  | .ge, a, b => cmpI (fun i j => decide (j ≤ i)) a b
  | .isin, a, b => inD a b
  | .notin, a, b => (inD a b).map not
  | .is, a, b => isD a b
  | .isnot, a, b => (isD a b).map not

def allInts : List PyData → Option (List Int)
  | [] => some []
  | .int i :: ds => (allInts ds).map (i :: ·)
  | _ :: _ => none
def allBools : List PyData → Option (List Bool)
  | [] => some []
  | .bool b :: ds => (allBools ds).map (b :: ·)
  | _ :: _ => none
/-- the script, as a datum -/
def scrD (ns : List Int) : PyData := .dict [(.bool true, .list (ns.map PyData.int))]
inductive Ty where
  | n | b | i | s | l | t | d
  deriving DecidableEq
def tyD : PyData → Option Ty
  | .none => some .n
  | .bool _ => some .b
  | .int _ => some .i
  | .str _ => some .s
  | .list _ => some .l
  | .tuple _ => some .t
  | .dict [] => some .d
  | _ => none
def kindB : Bi → Ty → Option Bool
  | .isInt, t => some (t == .i || t == .b)
  | .isBool, t => some (t == .b)
  | .isList, t => some (t == .l)
  | .isTuple, t => some (t == .t)
  | .isStr, t => some (t == .s)
  | .isDict, t => some (t == .d)
  | .isLT, t => some (t == .l || t == .t)
  | _, _ => none
def one (f : PyData → Option PyData) : List PyData → Option PyData
  | [d] => f d
  | _ => none
def two (f : PyData → PyData → Option PyData) : List PyData → Option PyData
  | [d, e] => f d e
  | _ => none
def lenD : PyData → Option PyData
  | .list ds => some (.int ds.length)
  | .tuple ds => some (.int ds.length)
  | .dict [(.bool true, .list ds)] => some (.int ds.length)
  | _ => none
def intOfD : PyData → Option PyData
  | .int i => some (.int i)
  | .bool b => some (.int (if b then 1 else 0))
  | _ => none
def iiD (f : Int → Int → Int) : PyData → PyData → Option PyData
  | .int i, .int j => some (.int (f i j))
  | _, _ => none
def sumD : PyData → Option PyData
  | .list ds => (allInts ds).map fun ns => .int ns.sum
  | _ => none
def listD : PyData → Option PyData
  | .list ds => some (.list ds)
  | .tuple ds => some (.list ds)
  | _ => none
def tupleD : PyData → Option PyData
  | .list ds => some (.tuple ds)
  | .tuple ds => some (.tuple ds)
  | _ => none
def boolsD (f : List Bool → Bool) : PyData → Option PyData
  | .list ds => (allBools ds).map fun bs => .bool (f bs)
  | _ => none
def reprD (d : PyData) : Option PyData := if d.showable && d.canLay0 && decide (d.shown.length + 64 ≤ line) && decide (d.depth ≤ 64) then some (.str d.shown) else none
/-- the unlike ones -/
def metD (ns : List Int) : Nat := (PyProof.Rows.firstMet (fun i => ns.getD i 0) ns.length).length
def lenSetD : PyData → Option PyData
  | .list ds => (allInts ds).bind fun ns => if ns.length ≤ 4000 then some (.int (metD ns)) else none
  | _ => none
def divmodD : PyData → PyData → Option PyData
  | .int i, .int j => if decide (0 < j) && decide (j < 1073741824) then some (.tuple [.int (i / j), .int (i % j)]) else none
  | _, _ => none
def biD : Bi → List PyData → Option PyData
  | .len => one lenD
  | .int => one intOfD
  | .max2 => two (iiD fun i j => if j > i then j else i)
  | .min2 => two (iiD fun i j => if j < i then j else i)
  | .sum => one sumD
  | .list => one listD
  | .tuple => one tupleD
  | .all => one (boolsD fun bs => bs.all id)
  | .any => one (boolsD fun bs => bs.any id)
  | .repr => one reprD
  | .lenSet => one lenSetD
  | .divmod => two divmodD
  | .sorted => fun _ => none
  | k => one fun d => (tyD d).bind fun t => (kindB k t).map .bool

def ixD (n : Nat) (i : Int) : Option Nat := if 0 ≤ i then (if i < n then some i.toNat else none) else if -(n : Int) ≤ i then some (i + n).toNat else none
def idxD : PyData → PyData → Option PyData
  | .list ds, .int i => (ixD ds.length i).bind fun j => ds[j]?
  | .tuple ds, .int i => (ixD ds.length i).bind fun j => ds[j]?
  | .dict [(.bool true, .list ds)], .int i => (ixD ds.length i).bind fun j => ds[j]?
  | _, _ => none
def sIx (n d : Nat) : Option Int → Nat := HT.sIx n d
def cutD (ds : List PyData) (lo hi : Option Int) : List PyData := (ds.drop (HT.sIx ds.length 0 lo)).take (HT.sIx ds.length ds.length hi - HT.sIx ds.length 0 lo)
def boundD : Option PyData → Option (Option Int)
  | none => some none
  | some (.int i) => some (some i)
  | _ => none
def slD (a : PyData) (lo hi : Option PyData) : Option PyData :=
  match a, boundD lo, boundD hi with
  | .list ds, some l, some h => some (.list (cutD ds l h))
  | .tuple ds, some l, some h => if HT.sIx ds.length 0 l = 0 ∧ HT.sIx ds.length ds.length h = ds.length then none else some (.tuple (cutD ds l h))
  | .dict [(.bool true, .list ds)], some l, some h => some (.list (cutD ds l h))
  | _, _, _ => none
/-- a[:hi:-1], hi a place of the list or just ahead of it; a[::-1] -/
def slrD (a : PyData) (hi : Option PyData) : Option PyData :=
  match a, hi with
  | .list ds, none => some (.list ds.reverse)
  | .tuple ds, none => some (.tuple ds.reverse)
  | .list ds, some (.int h) => if decide (0 ≤ h) && decide (h < 2 ^ 62) then some (.list (ds.drop (h.toNat + 1)).reverse) else none
  | _, _ => none

/-- the first place of an equal item -/
def findD (d : PyData) : List PyData → Option Nat
  | [] => none
  | z :: ds => if PyData.eqv z d then some 0 else (findD d ds).map (· + 1)
/-- a method's call -/
def appD (S : Sto) (x : PyData) : List PyData → Option (PyData × Sto)
  | [d] => match celOf x with
    | some i => (settle S d).bind fun r => match r.2[i]? with
      | some (0, .list xs) => if xs.length < line then some (.none, r.2.set i (0, .list (xs ++ [r.1]))) else none
      | _ => none
    | none => none
  | _ => none
def popD (S : Sto) (x : PyData) : List PyData → Option (PyData × Sto)
  | [] => match celOf x with
    | some i => match S[i]? with
      | some (0, .list xs) => (xs[xs.length - 1]?).map fun y => (y, S.set i (0, .list xs.dropLast))
      | _ => none
    | none => none
  | _ => none
def popAtD (S : Sto) (x : PyData) : List PyData → Option (PyData × Sto)
  | [.int j] => match celOf x with
    | some i => match S[i]? with
      | some (0, .list xs) => if decide (0 ≤ j) && decide (j < xs.length) && decide (j < 2 ^ 62) then (xs[j.toNat]?).map fun y => (y, S.set i (0, .list (xs.eraseIdx j.toNat))) else none
      | _ => none
    | none => none
  | _ => none
def indexD (S : Sto) (x : PyData) : List PyData → Option (PyData × Sto)
  | [d] => match peek S x with
    | .list xs => if SeqAt.shaped (.list xs) && SeqAt.shaped d then (findD d xs).map fun (j : Nat) => (.int j, S) else none
    | _ => none
  | _ => none
def bitsD (S : Sto) (x : PyData) : List PyData → Option (PyData × Sto)
  | [] => match x with
    | .int i => some (.int (Builtin.Int.intBits i : Nat), S)
    | _ => none
  | _ => none
def mtD (S : Sto) (m : Mt) (x : PyData) (ds : List PyData) : Option (PyData × Sto) :=
  match m with
  | .append => appD S x ds
  | .pop => popD S x ds
  | .popAt => popAtD S x ds
  | .index => indexD S x ds
  | .bitLength => bitsD S x ds
  | .count => none

/-- targets: names and tuples of names -/
def bindT : T → PyData → Evn → Option Evn
  | .var k, d, env => if k < env.length then some (env.set k (some d)) else none
  | .tup ts, .tuple ds, env => bindT ts (.list ds) env
  | .tup ts, .list ds, env => bindT ts (.list ds) env
  | .nil, .list [], env => some env
  | .cons t ts, .list (d :: ds), env => (bindT t d env).bind fun e => bindT ts (.list ds) e
  | _, _, _ => none
def wipeE (env : Evn) : List Nat → Evn
  | [] => env
  | v :: vs => (wipeE env vs).set v none

/-! ### what is told to give a new list -/
structure Fn where
  np : Nat
  nl : Nat
  fr : Bool
  body : T
abbrev Tb := Nat → Option Fn
def frE (tb : Tb) : T → Bool
  | .lst _ | .lc .. | .lrng _ => true
  | .bin .add _ _ | .bin .mul _ _ => true
  | .bi .list _ | .bi .sorted _ => true
  | .sl .. | .slr .. => true
  | .call f _ _ | .callk f _ _ => match tb f with | some fn => fn.fr | none => false
  | .ite _ a b => frE tb a && frE tb b
  | .non | .int _ | .bl _ | .str _ => true
  | _ => false

abbrev Clf := Nat → List PyData → Sto → Option (PyData × Sto)
/-- items to walk, the store with the walked list locked, which one that is -/
def beginD (S : Sto) (d : PyData) : Option (List PyData × Sto × Option Nat) :=
  match celOf d with
  | none => match d with
    | .list ds => some (ds, S, none)
    | .tuple ds => some (ds, S, none)
    | _ => none
  | some i => match S[i]? with
    | some (0, .list ds) => some (ds, S.set i (1, .list ds), some i)
    | some (1, .list ds) => some (ds, S, none)
    | some (2, .list ds) => some (ds, S, none)
    | _ => none
def unlock : Option Nat → Sto → Sto
  | none, S => S
  | some i, S => match S[i]? with
    | some (1, d) => S.set i (0, d)
    | _ => S
def intRange (lo : Int) (n : Nat) : List PyData := (List.range n).map fun (j : Nat) => .int (lo + j)
def rngD : List PyData → Option (List PyData)
  | [.int j] => if decide (-(2 ^ 62) ≤ j) && decide (j < 2 ^ 62) then some (intRange 0 j.toNat) else none
  | [.int i, .int j] => if decide (-(2 ^ 62) ≤ i) && decide (i < 2 ^ 62) && decide (-(2 ^ 62) ≤ j) && decide (j < 2 ^ 62) then some (intRange i (j - i).toNat) else none
  | _ => none
def numbered (k : Nat) : List PyData → List PyData
  | [] => []
  | d :: ds => .tuple [.int k, d] :: numbered (k + 1) ds
def zipped : List PyData → List PyData → List PyData
  | x :: xs, y :: ys => .tuple [x, y] :: zipped xs ys
  | _, _ => []

/-- a comprehension's turns: one gives the element, or nothing where a test is false -/
def lcLoop (one : PyData → Sto → Option (Option PyData × Sto)) : List PyData → List PyData → Sto → Option (List PyData × Sto)
  | [], acc, S => some (acc, S)
  | x :: xs, acc, S => (one x S).bind fun r => match r.1 with
    | none => lcLoop one xs acc r.2
    | some y => if acc.length < line then lcLoop one xs (acc ++ [y]) r.2 else none

def isTrueD : PyData → Option Bool
  | .bool b => some b
  | _ => none

/-- a call's own store: the changing lists handed on, in their order -/
def cellsOf : List PyData → Nat → List PyData × List Nat
  | [], _ => ([], [])
  | d :: ds, n => match celOf d with
    | some i => (cel n :: (cellsOf ds (n + 1)).1, i :: (cellsOf ds (n + 1)).2)
    | none => (d :: (cellsOf ds n).1, (cellsOf ds n).2)
def getAll (S : Sto) : List Nat → Option Sto
  | [] => some []
  | i :: is => (S[i]?).bind fun c => (getAll S is).map fun r => c :: r
def putAll : Sto → List Nat → Sto → Sto
  | S, i :: is, c :: cs => putAll (S.set i c) is cs
  | S, _, _ => S
def callD (F : Clf) (f : Nat) (ds : List PyData) (S : Sto) : Option (PyData × Sto) :=
  if (cellsOf ds 0).2.Nodup then (getAll S (cellsOf ds 0).2).bind fun L => (F f (cellsOf ds 0).1 L).bind fun q =>
    if q.2.length = L.length then some (q.1, putAll S (cellsOf ds 0).2 q.2) else none
  else none

mutual
def evE (tb : Tb) (F : Clf) : T → Evn → Sto → Option (PyData × Sto)
  | .var k, env, S => match env[k]? with
    | some (some d) => if isGr d then none else some (d, S)
    | _ => none
  | .int i, _, S => some (.int i, S)
  | .str s, _, S => some (.str s, S)
  | .bl b, _, S => some (.bool b, S)
  | .non, _, S => some (.none, S)
  | .edict, _, S => some (.dict [], S)
  | .bin o a b, env, S => (evE tb F a env S).bind fun r => (evE tb F b env r.2).bind fun q => (binD o (peek q.2 r.1) (peek q.2 q.1)).map fun d => (d, q.2)
  | .neg a, env, S => (evE tb F a env S).bind fun r => match r.1 with
    | .int i => some (.int (-i), r.2)
    | _ => none
  | .cmp o a b, env, S => (evE tb F a env S).bind fun r => (evE tb F b env r.2).bind fun q => (cmpD o (peek q.2 r.1) (peek q.2 q.1)).map fun d => (.bool d, q.2)
  | .chain o p a b c, env, S => (evE tb F a env S).bind fun r => (evE tb F b env r.2).bind fun q => (cmpD o (peek q.2 r.1) (peek q.2 q.1)).bind fun k =>
      if k then (evE tb F c env q.2).bind fun u => (cmpD p (peek u.2 q.1) (peek u.2 u.1)).map fun d => (.bool d, u.2) else some (.bool false, q.2)
  | .and a b, env, S => (evE tb F a env S).bind fun r => (isTrueD r.1).bind fun k => if k then evE tb F b env r.2 else some (.bool false, r.2)
  | .or a b, env, S => (evE tb F a env S).bind fun r => (isTrueD r.1).bind fun k => if k then some (.bool true, r.2) else evE tb F b env r.2
  | .not a, env, S => (evE tb F a env S).bind fun r => (isTrueD r.1).map fun k => (.bool (!k), r.2)
  | .ite c a b, env, S => (evE tb F c env S).bind fun r => (isTrueD r.1).bind fun k => if k then evE tb F a env r.2 else evE tb F b env r.2
  | .tup es, env, S => (evL tb F es env S).bind fun r => (settleAll r.2 r.1).bind fun q => if q.1.length ≤ line then some (.tuple q.1, q.2) else none
  | .lst es, env, S => (evL tb F es env S).bind fun r => (settleAll r.2 r.1).bind fun q => if q.1.length ≤ line then some (.list q.1, q.2) else none
  | .call f rs es, env, S => (evL tb F es env S).bind fun r => (settleBy rs r.2 r.1).bind fun q => callD F f q.1 q.2
  | .callk f perm es, env, S => (evL tb F es env S).bind fun r => (settleAll r.2 r.1).bind fun q => callD F f (perm.map fun j => q.1.getD j .none) q.2
  | .bi b es, env, S => (evL tb F es env S).bind fun r => (biD b (r.1.map (peek r.2))).map fun d => (d, r.2)
  | .mt m o es, env, S => (evE tb F o env S).bind fun r => (evL tb F es env r.2).bind fun q => mtD q.2 m r.1 q.1
  | .idx a i, env, S => (evE tb F a env S).bind fun r => (evE tb F i env r.2).bind fun q => (idxD (peek q.2 r.1) q.1).map fun d => (d, q.2)
  | .sl a lo hi, env, S => (evE tb F a env S).bind fun r => (evO tb F lo env r.2).bind fun q => (evO tb F hi env q.2).bind fun u => (slD (peek u.2 r.1) q.1 u.1).map fun d => (d, u.2)
  | .slr a hi, env, S => (evE tb F a env S).bind fun r => (evO tb F hi env r.2).bind fun q => (slrD (peek q.2 r.1) q.1).map fun d => (d, q.2)
  | .lc own tg it ifs el, env, S => (evI tb F it env S).bind fun r =>
      (lcLoop (fun x S1 => (bindT tg x (wipeE env own)).bind fun e1 => (evT tb F ifs e1 S1).bind fun t => if t.1 then (evE tb F el e1 t.2).bind fun y => (settle y.2 y.1).map fun z => (some z.1, z.2) else some (none, t.2)) r.1 [] r.2.1).map fun q => (.list q.1, unlock r.2.2 q.2)
  | .thaw e, env, S => if frE tb e then (evE tb F e env S).bind fun r => match r.1 with
      | .list ds => some (cel r.2.length, r.2 ++ [(0, .list ds)])
      | _ => none
    else none
  | .lrng es, env, S => (evL tb F es env S).bind fun r => (rngD r.1).bind fun ds => if ds.length ≤ line then some (.list ds, r.2) else none
  | _, _, _ => none
/-- several, from the left -/
def evL (tb : Tb) (F : Clf) : T → Evn → Sto → Option (List PyData × Sto)
  | .nil, _, S => some ([], S)
  | .cons a b, env, S => (evE tb F a env S).bind fun r => (evL tb F b env r.2).map fun q => (r.1 :: q.1, q.2)
  | _, _, _ => none
/-- one that may lack (nil) -/
def evO (tb : Tb) (F : Clf) : T → Evn → Sto → Option (Option PyData × Sto)
  | .nil, _, S => some (none, S)
  | .cons a _, env, S => (evE tb F a env S).map fun r => (some r.1, r.2)
  | _, _, _ => none
/-- tests, all of them -/
def evT (tb : Tb) (F : Clf) : T → Evn → Sto → Option (Bool × Sto)
  | .nil, _, S => some (true, S)
  | .cons a _, env, S => (evE tb F a env S).bind fun r => (isTrueD r.1).map fun k => (k, r.2)
  | _, _, _ => none
/-- what is walked -/
def evI (tb : Tb) (F : Clf) : T → Evn → Sto → Option (List PyData × Sto × Option Nat)
  | .rng es, env, S => (evL tb F es env S).bind fun r => (rngD r.1).map fun ds => (ds, r.2, none)
  | .enumr e, env, S => (evE tb F e env S).bind fun r => match r.1 with
      | .tuple _ => none
      | d => (beginD r.2 d).map fun q => (numbered 0 q.1, q.2.1, q.2.2)
  | .zipr a b, env, S => (evE tb F a env S).bind fun r => (evE tb F b env r.2).bind fun q => (settle q.2 r.1).bind fun u => (settle u.2 q.1).bind fun v => match u.1, v.1 with
      | .list xs, .list ys | .list xs, .tuple ys | .tuple xs, .list ys | .tuple xs, .tuple ys => some (zipped xs ys, v.2, none)
      | _, _ => none
  | .cons e _, env, S => (evE tb F e env S).bind fun r => beginD r.2 r.1
  | _, _, _ => none
end

/-! ### statements -/
inductive Out where
  | nx (env : Evn) (S : Sto) | rt (d : PyData) (fr : Bool) (S : Sto) | bk (env : Evn) (S : Sto) | ct (env : Evn) (S : Sto)

def forLoop (tg : T) (body : Evn → Sto → Option Out) : List PyData → Evn → Sto → Option Out
  | [], env, S => some (.nx env S)
  | x :: xs, env, S => (bindT tg x env).bind fun e1 => (body e1 S).bind fun o => match o with
    | .nx e2 S2 => forLoop tg body xs e2 S2
    | .ct e2 S2 => forLoop tg body xs e2 S2
    | .bk e2 S2 => some (.nx e2 S2)
    | .rt d f S2 => some (.rt d f S2)
def whlLoop (test : Evn → Sto → Option (Bool × Sto)) (body : Evn → Sto → Option Out) : Nat → Evn → Sto → Option Out
  | 0, _, _ => none
  | n + 1, env, S => (test env S).bind fun t => if t.1 then (body env t.2).bind fun o => match o with
      | .nx e2 S2 => whlLoop test body n e2 S2
      | .ct e2 S2 => whlLoop test body n e2 S2
      | .bk e2 S2 => some (.nx e2 S2)
      | .rt d f S2 => some (.rt d f S2)
    else some (.nx env t.2)
def unlockO (l : Option Nat) : Out → Out
  | .nx e S => .nx e (unlock l S)
  | .rt d f S => .rt d f (unlock l S)
  | .bk e S => .bk e (unlock l S)
  | .ct e S => .ct e (unlock l S)
def setsE : List (Nat × Bool) → List PyData → Evn → Option Evn
  | [], [], env => some env
  | (k, _) :: ks, d :: ds, env => if k < env.length then setsE ks ds (env.set k (some d)) else none
  | _, _, _ => none
/-- rows, each of them a new changing list -/
def rowsLoop (one : PyData → Sto → Option (PyData × Sto)) : List PyData → List Nat → Sto → Option (List Nat × Sto)
  | [], acc, S => some (acc, S)
  | x :: xs, acc, S => (one x S).bind fun r => match r.1 with
    | .list ds => if acc.length < line then rowsLoop one xs (acc ++ [r.2.length]) (r.2 ++ [(0, .list ds)]) else none
    | _ => none
/-- rows that never change any more -/
def freezeAll : Sto → List Nat → Option (List PyData × Sto)
  | S, [] => some ([], S)
  | S, c :: cs => match S[c]? with
    | some (0, d) => (freezeAll (S.set c (2, d)) cs).map fun r => (d :: r.1, r.2)
    | _ => none
mutual
def evS (tb : Tb) (F : Clf) (W n0 : Nat) : T → Evn → Sto → Option Out
  | .asg tg e, env, S => (evE tb F e env S).bind fun r => (settle r.2 r.1).bind fun q => (bindT tg q.1 env).map fun e1 => .nx e1 q.2
  | .asgm k e, env, S => if frE tb e && decide (k < env.length) then (evE tb F e env S).bind fun r => match r.1 with
      | .list ds => some (.nx (env.set k (some (cel r.2.length))) (r.2 ++ [(0, .list ds)]))
      | _ => none
    else none
  | .asgi k i e, env, S => (evE tb F e env S).bind fun r => (settle r.2 r.1).bind fun q => (evE tb F i env q.2).bind fun j => match env[k]?, j.1 with
      | some (some d), .int n => match celOf d with
        | some c => match j.2[c]? with
          | some (0, .list xs) => (ixD xs.length n).map fun m => .nx env (j.2.set c (0, .list (xs.set m q.1)))
          | _ => none
        | none => none
      | _, _ => none
  | .parr i j l a b own tg it el, env, S => if frE tb el && decide (l < env.length) then (evE tb F a env S).bind fun ra => (evE tb F b env ra.2).bind fun rb => (evI tb F it env rb.2).bind fun q =>
      if q.2.2 = none then (rowsLoop (fun x S1 => (bindT tg x (wipeE env own)).bind fun e1 => evE tb F el e1 S1) q.1 [] q.2.1).bind fun u => (settle u.2 ra.1).bind fun sa => (settle sa.2 rb.1).map fun sb => .nx (((env.set i (some sa.1)).set j (some sb.1)).set l (some (grD u.1))) sb.2 else none
    else none
  | .asgii k i j e, env, S => (evE tb F e env S).bind fun r => (settle r.2 r.1).bind fun q => (evE tb F i env q.2).bind fun u => (evE tb F j env u.2).bind fun w => match env[k]?, u.1, w.1 with
      | some (some d), .int m, .int p => (grOf d).bind fun js => (ixD js.length m).bind fun a => (js[a]?).bind fun c => match w.2[c]? with
        | some (0, .list xs) => (ixD xs.length p).map fun b => .nx env (w.2.set c (0, .list (xs.set b q.1)))
        | _ => none
      | _, _, _ => none
  | .retg k, env, S => match env[k]? with
    | some (some d) => (grOf d).bind fun js => (freezeAll S js).map fun r => .rt (.list r.1) false r.2
    | _ => none
  | .par ks es, env, S => (evL tb F es env S).bind fun r => (settleBy (ks.map (·.2)) r.2 r.1).bind fun q => (setsE ks q.1 env).map fun e1 => .nx e1 q.2
  | .ex e, env, S => (evE tb F e env S).map fun r => .nx env r.2
  | .ret e, env, S => (evE tb F e env S).bind fun r => (settle r.2 r.1).map fun q => .rt q.1 (frE tb e && (celOf r.1).isNone) q.2
  | .retm k, env, S => match env[k]? with
    | some (some d) => match celOf d with
      | some i => match S[i]? with
        | some (0, c) => some (.rt c (decide (n0 ≤ i)) (S.set i (2, c)))
        | some (2, c) => some (.rt c false S)
        | _ => none
      | none => none
    | _ => none
  | .retn, _, S => some (.rt .none true S)
  | .iff c a b, env, S => (evE tb F c env S).bind fun r => (isTrueD r.1).bind fun k => if k then evB tb F W n0 a env r.2 else evB tb F W n0 b env r.2
  | .forr tg it b, env, S => (evI tb F it env S).bind fun r => (forLoop tg (fun e1 S1 => evB tb F W n0 b e1 S1) r.1 env r.2.1).map (unlockO r.2.2)
  | .whl c b, env, S => whlLoop (fun e1 S1 => (evE tb F c e1 S1).bind fun r => (isTrueD r.1).map fun k => (k, r.2)) (fun e1 S1 => evB tb F W n0 b e1 S1) W env S
  | .pas, env, S => some (.nx env S)
  | .brk, env, S => some (.bk env S)
  | .cnt, env, S => some (.ct env S)
  | _, _, _ => none
def evB (tb : Tb) (F : Clf) (W n0 : Nat) : T → Evn → Sto → Option Out
  | .nil, env, S => some (.nx env S)
  | .cons a b, env, S => (evS tb F W n0 a env S).bind fun o => match o with
    | .nx e1 S1 => evB tb F W n0 b e1 S1
    | o => some o
  | _, _, _ => none
end

/-- a def's end: its own changing lists are gone; one that is to give new lists does -/
def outD (n : Nat) (fr : Bool) : Out → Option (PyData × Sto)
  | .rt d f S => if fr && !f then none else some (d, S.take n)
  | .nx _ S => some (.none, S.take n)
  | _ => none
def evC (tb : Tb) (W : Nat) : Nat → Clf
  | 0, _, _, _ => none
  | k + 1, f, ds, S => match tb f with
    | none => none
    | some fn => if ds.length = fn.np then (evB tb (evC tb W k) W S.length fn.body (ds.map some ++ List.replicate (fn.nl - fn.np) none) S).bind (outD S.length fn.fr) else none
end TW
end
section
set_option Elab.async false
set_option linter.all false
set_option maxRecDepth 100000
set_option maxHeartbeats 1000000
/-! TwBase: how data lie in the heap; the store of changing lists. -/
namespace TW
open PySem PySem.Spec PyProof.Rows L2

mutual
inductive Dq (K : PySem.W.Frag) (H : Hp) : V → PyData → Prop
  | non : Dq K H .non .none
  | bl (b : Bool) : Dq K H (.bl b) (.bool b)
  | int (i : Int) : Dq K H (.int i) (.int i)
  | str (x : Str) : Dq K H (.str x) (.str x)
  | lst {a : Addr} {xs : List V} {ds : List PyData} : H a = some (.lst xs) → DqAll K H xs ds → Dq K H (.ref a) (.list ds)
  | tup {a : Addr} {xs : List V} {ds : List PyData} : H a = some (.tup xs) → DqAll K H xs ds → Dq K H (.ref a) (.tuple ds)
  | edict {a : Addr} : H a = some (.dK []) → Dq K H (.ref a) (.dict [])
  | scr {a : Addr} {ns : List Int} : SqL K H a (ns.map V.int) → ns.length ≤ 63 → Dq K H (.ref a) (scrD ns)
inductive DqAll (K : PySem.W.Frag) (H : Hp) : List V → List PyData → Prop
  | nil : DqAll K H [] []
  | cons {v : V} {vs : List V} {d : PyData} {ds : List PyData} : Dq K H v d → DqAll K H vs ds → DqAll K H (v :: vs) (d :: ds)
end

def Le (H H' : Hp) : Prop := ∀ b x, H b = some x → H' b = some x
theorem Le.refl (H : Hp) : Le H H := fun _ _ e => e
theorem Le.trans {H1 H2 H3 : Hp} (a : Le H1 H2) (b : Le H2 H3) : Le H1 H3 := fun x o e => b x o (a x o e)
theorem Le.sqL {K : PySem.W.Frag} {H H' : Hp} (l : Le H H') {a : Addr} {xs : List V} (h : SqL K H a xs) : SqL K H' a xs := by
  rcases h with h | h
  · rcases h with h | ⟨o, h⟩
    · exact .inl (.inl (l _ _ h))
    · exact .inl (.inr ⟨o, l _ _ h⟩)
  · exact .inr h
mutual
theorem Dq.mono {K : PySem.W.Frag} {H H' : Hp} (l : Le H H') : ∀ {v : V} {d : PyData}, Dq K H v d → Dq K H' v d
  | _, _, .non => .non
  | _, _, .bl b => .bl b
  | _, _, .int i => .int i
  | _, _, .str x => .str x
  | _, _, .lst h a => .lst (l _ _ h) (DqAll.mono l a)
  | _, _, .tup h a => .tup (l _ _ h) (DqAll.mono l a)
  | _, _, .edict h => .edict (l _ _ h)
  | _, _, .scr h n => .scr (l.sqL h) n
theorem DqAll.mono {K : PySem.W.Frag} {H H' : Hp} (l : Le H H') : ∀ {vs : List V} {ds : List PyData}, DqAll K H vs ds → DqAll K H' vs ds
  | _, _, .nil => .nil
  | _, _, .cons a b => .cons (Dq.mono l a) (DqAll.mono l b)
end
theorem Dq.noCel {K : PySem.W.Frag} {H : Hp} {v : V} {d : PyData} (h : Dq K H v d) : celOf d = none := by
  cases h <;> rfl
mutual
theorem Dq.dp {K : PySem.W.Frag} {H : Hp} : ∀ {v : V} {d : PyData}, Dq K H v d → d.canLay0 = true → Dp K H v d
  | _, _, .non, _ => .non
  | _, _, .bl b, _ => .bl b
  | _, _, .int i, _ => .int i
  | _, _, .str x, _ => .str x
  | _, _, .lst h a, c => .lst (SqL.of h) (DqAll.dp a (by simpa [PyData.canLay0] using c))
  | _, _, .tup h a, c => .tup (SqT.of h) (DqAll.dp a (by simpa [PyData.canLay0] using c))
  | _, _, .edict _, c => by simp [PyData.canLay0] at c
  | _, _, .scr _ _, c => by simp [scrD, PyData.canLay0] at c
theorem DqAll.dp {K : PySem.W.Frag} {H : Hp} : ∀ {vs : List V} {ds : List PyData}, DqAll K H vs ds → PyData.canLayAll0 ds = true → DpAll K H vs ds
  | _, _, .nil, _ => .nil
  | _, _, .cons a b, c => by
    simp only [PyData.canLayAll0, Bool.and_eq_true] at c
    exact .cons (Dq.dp a c.1) (DqAll.dp b c.2)
end
theorem DqAll.len {K : PySem.W.Frag} {H : Hp} : ∀ {vs : List V} {ds : List PyData}, DqAll K H vs ds → vs.length = ds.length
  | _, _, .nil => rfl
  | _, _, .cons _ b => congrArg (· + 1) (DqAll.len b)
theorem DqAll.get {K : PySem.W.Frag} {H : Hp} : ∀ {vs : List V} {ds : List PyData} {i : Nat} {d : PyData}, DqAll K H vs ds → ds[i]? = some d → ∃ v, vs[i]? = some v ∧ Dq K H v d
  | _, _, _, _, .nil, e => by simp at e
  | _, _, 0, _, .cons a _, e => by simp at e; subst e; exact ⟨_, rfl, a⟩
  | _, _, i + 1, d, .cons _ b, e => by
    obtain ⟨v, h1, h2⟩ := DqAll.get (i := i) (d := d) b (by simpa using e)
    exact ⟨v, by simpa using h1, h2⟩
theorem DqAll.getV {K : PySem.W.Frag} {H : Hp} : ∀ {vs : List V} {ds : List PyData} {i : Nat} {v : V}, DqAll K H vs ds → vs[i]? = some v → ∃ d, ds[i]? = some d ∧ Dq K H v d
  | _, _, _, _, .nil, e => by simp at e
  | _, _, 0, _, .cons a _, e => by simp at e; subst e; exact ⟨_, rfl, a⟩
  | _, _, i + 1, d, .cons _ b, e => by
    obtain ⟨v, h1, h2⟩ := DqAll.getV (i := i) (v := d) b (by simpa using e)
    exact ⟨v, by simpa using h1, h2⟩
theorem DqAll.app {K : PySem.W.Frag} {H : Hp} : ∀ {vs : List V} {ds : List PyData} {ws : List V} {es : List PyData}, DqAll K H vs ds → DqAll K H ws es → DqAll K H (vs ++ ws) (ds ++ es)
  | _, _, _, _, .nil, q => q
  | _, _, _, _, .cons a b, q => .cons a (DqAll.app b q)
theorem DqAll.take {K : PySem.W.Frag} {H : Hp} : ∀ (n : Nat) {vs : List V} {ds : List PyData}, DqAll K H vs ds → DqAll K H (vs.take n) (ds.take n)
  | 0, _, _, _ => by simp only [List.take_zero]; exact .nil
  | n + 1, _, _, .nil => by simp only [List.take_nil]; exact .nil
  | n + 1, _, _, .cons a b => by simp only [List.take_succ_cons]; exact .cons a (DqAll.take n b)
theorem DqAll.drop {K : PySem.W.Frag} {H : Hp} : ∀ (n : Nat) {vs : List V} {ds : List PyData}, DqAll K H vs ds → DqAll K H (vs.drop n) (ds.drop n)
  | 0, _, _, h => by simpa only [List.drop_zero] using h
  | n + 1, _, _, .nil => by simp only [List.drop_nil]; exact .nil
  | n + 1, _, _, .cons a b => by simp only [List.drop_succ_cons]; exact DqAll.drop n b
theorem DqAll.rev {K : PySem.W.Frag} {H : Hp} : ∀ {vs : List V} {ds : List PyData}, DqAll K H vs ds → DqAll K H vs.reverse ds.reverse
  | _, _, .nil => .nil
  | _, _, .cons a b => by
    simp only [List.reverse_cons]
    exact (DqAll.rev b).app (.cons a .nil)
theorem DqAll.rep {K : PySem.W.Frag} {H : Hp} {vs : List V} {ds : List PyData} (h : DqAll K H vs ds) : ∀ n : Nat, DqAll K H (List.replicate n vs).flatten (List.replicate n ds).flatten
  | 0 => .nil
  | n + 1 => by
    simp only [List.replicate_succ, List.flatten_cons]
    exact h.app (h.rep n)
theorem DqAll.erase {K : PySem.W.Frag} {H : Hp} : ∀ (n : Nat) {vs : List V} {ds : List PyData}, DqAll K H vs ds → DqAll K H (vs.eraseIdx n) (ds.eraseIdx n)
  | _, _, _, .nil => .nil
  | 0, _, _, .cons a b => b
  | n + 1, _, _, .cons a b => .cons a (DqAll.erase n b)
theorem DqAll.set {K : PySem.W.Frag} {H : Hp} {v : V} {d : PyData} (h : Dq K H v d) : ∀ (n : Nat) {vs : List V} {ds : List PyData}, DqAll K H vs ds → DqAll K H (vs.set n v) (ds.set n d)
  | _, _, _, .nil => .nil
  | 0, _, _, .cons _ b => .cons h b
  | n + 1, _, _, .cons a b => .cons a (DqAll.set h n b)
theorem DqAll.dropLast {K : PySem.W.Frag} {H : Hp} {vs : List V} {ds : List PyData} (h : DqAll K H vs ds) : DqAll K H vs.dropLast ds.dropLast := by
  rw [List.dropLast_eq_take, List.dropLast_eq_take, h.len]
  exact h.take _
theorem DqAll.ints {K : PySem.W.Frag} {H : Hp} : ∀ {vs : List V} {ds : List PyData} {ns : List Int}, DqAll K H vs ds → allInts ds = some ns → vs = ns.map V.int
  | _, _, ns, .nil, e => by
    simp only [allInts, Option.some.injEq] at e
    subst e; rfl
  | _, _, ns, .cons a b, e => by
    cases a with
    | int i =>
      simp only [allInts, Option.map_eq_some_iff] at e
      obtain ⟨ms, e1, rfl⟩ := e
      simp [b.ints e1]
    | _ => simp [allInts, scrD] at e
theorem DqAll.bools {K : PySem.W.Frag} {H : Hp} : ∀ {vs : List V} {ds : List PyData} {ns : List Bool}, DqAll K H vs ds → allBools ds = some ns → vs = ns.map V.bl
  | _, _, ns, .nil, e => by
    simp only [allBools, Option.some.injEq] at e
    subst e; rfl
  | _, _, ns, .cons a b, e => by
    cases a with
    | bl i =>
      simp only [allBools, Option.map_eq_some_iff] at e
      obtain ⟨ms, e1, rfl⟩ := e
      simp [b.bools e1]
    | _ => simp [allBools, scrD] at e
theorem DqAll.ofInts {K : PySem.W.Frag} {H : Hp} : ∀ ns : List Int, DqAll K H (ns.map V.int) (ns.map PyData.int)
  | [] => .nil
  | n :: ns => .cons (.int n) (DqAll.ofInts ns)

/-! ### the store's state -/
structure Zs where
  G : List Addr
  μ : List Addr
  S : Sto
def Zs.busy (z : Zs) (b : Addr) : Prop := b ∈ z.G ∨ ∃ (i : Nat) (c : Cell), z.μ[i]? = some b ∧ z.S[i]? = some c ∧ c.1 ≠ 2
open Classical in
noncomputable def Zs.mask (z : Zs) (H : Hp) : Hp := fun b => if z.busy b then none else H b
theorem Zs.mask_some {z : Zs} {H : Hp} {b : Addr} {o : HO} : z.mask H b = some o ↔ ¬ z.busy b ∧ H b = some o := by
  unfold Zs.mask
  by_cases h : z.busy b
  · rw [if_pos h]; exact ⟨fun e => (nomatch e), fun e => (e.1 h).elim⟩
  · rw [if_neg h]; exact ⟨fun e => ⟨h, e⟩, fun e => e.2⟩
theorem Zs.mask_le (z : Zs) (H : Hp) : Le (z.mask H) H := fun b o e => (Zs.mask_some.mp e).2

structure StC (K : PySem.W.Frag) (z : Zs) (H : Hp) : Prop where
  len : z.μ.length = z.S.length
  nd : z.μ.Nodup
  gm : ∀ g ∈ z.G, g ∉ z.μ ∧ H g ≠ none
  cl : ∀ (i : Nat) (a : Addr) (c : Cell), z.μ[i]? = some a → z.S[i]? = some c → ∃ xs ds, c.2 = .list ds ∧ H a = some (.lst xs) ∧ DqAll K (z.mask H) xs ds
/-- from one state to a later one -/
structure Sf (z : Zs) (H : Hp) (z' : Zs) (H' : Hp) : Prop where
  g : z'.G = z.G
  ex : ∃ ν, z'.μ = z.μ ++ ν
  le : Le (z.mask H) (z'.mask H')
  gh : ∀ g ∈ z.G, H' g = H g
  lk : ∀ (i : Nat) c, z.S[i]? = some (1, c) → z'.S[i]? = some (1, c)
theorem Sf.refl (z : Zs) (H : Hp) : Sf z H z H := ⟨rfl, ⟨[], by simp⟩, Le.refl _, fun _ _ => rfl, fun _ _ e => e⟩
theorem Sf.trans {z1 z2 z3 : Zs} {H1 H2 H3 : Hp} (a : Sf z1 H1 z2 H2) (b : Sf z2 H2 z3 H3) : Sf z1 H1 z3 H3 := by
  refine ⟨b.g.trans a.g, ?_, a.le.trans b.le, fun g hg => (b.gh g (a.g ▸ hg)).trans (a.gh g hg), fun i c e => b.lk i c (a.lk i c e)⟩
  obtain ⟨ν, e⟩ := a.ex
  obtain ⟨ν2, e2⟩ := b.ex
  exact ⟨ν ++ ν2, by rw [e2, e, List.append_assoc]⟩
theorem Sf.mu {z1 z2 : Zs} {H1 H2 : Hp} (a : Sf z1 H1 z2 H2) {i : Nat} {x : Addr} (h : z1.μ[i]? = some x) : z2.μ[i]? = some x := by
  obtain ⟨ν, e⟩ := a.ex
  have hi : i < z1.μ.length := (List.getElem?_eq_some_iff.mp h).1
  rw [e, List.getElem?_append_left hi]
  exact h

/-- a value and what it stands for: a datum, or a changing list -/
def Rv (K : PySem.W.Frag) (z : Zs) (H : Hp) (v : V) (d : PyData) : Prop := Dq K (z.mask H) v d ∨ ∃ (i : Nat) (a : Addr), d = cel i ∧ z.μ[i]? = some a ∧ v = .ref a
theorem Rv.mono {K : PySem.W.Frag} {z z' : Zs} {H H' : Hp} {v : V} {d : PyData} (s : Sf z H z' H') (h : Rv K z H v d) : Rv K z' H' v d := by
  rcases h with h | ⟨i, a, h1, h2, h3⟩
  · exact .inl (h.mono s.le)
  · exact .inr ⟨i, a, h1, s.mu h2, h3⟩
/-- a list of changing lists -/
def Gr (K : PySem.W.Frag) (z : Zs) (H : Hp) (v : V) (d : PyData) : Prop := ∃ (a : Addr) (js : List Nat) (xs : List V), d = grD js ∧ v = .ref a ∧ z.mask H a = some (.lst xs) ∧ Paired (fun (x : V) (j : Nat) => ∃ b, x = .ref b ∧ z.μ[j]? = some b) xs js
theorem paired_imp {α β : Type} {R R' : α → β → Prop} (f : ∀ x y, R x y → R' x y) {xs : List α} {ys : List β} (h : Paired R xs ys) : Paired R' xs ys := by
  induction h with
  | nil => exact .nil
  | cons a b ih => exact .cons (f _ _ a) ih
theorem Gr.mono {K : PySem.W.Frag} {z z' : Zs} {H H' : Hp} {v : V} {d : PyData} (le : Le (z.mask H) (z'.mask H')) (ex : ∃ ν, z'.μ = z.μ ++ ν) (h : Gr K z H v d) : Gr K z' H' v d := by
  obtain ⟨a, js, xs, h1, h2, h3, h4⟩ := h
  obtain ⟨ν, e⟩ := ex
  exact ⟨a, js, xs, h1, h2, le _ _ h3, paired_imp (fun x j ⟨b, q1, q2⟩ => ⟨b, q1, by rw [e, List.getElem?_append_left (List.getElem?_eq_some_iff.mp q2).1]; exact q2⟩) h4⟩
/-- what a name bears -/
def Rg (K : PySem.W.Frag) (z : Zs) (H : Hp) (v : V) (d : PyData) : Prop := Rv K z H v d ∨ Gr K z H v d
theorem Rg.mono {K : PySem.W.Frag} {z z' : Zs} {H H' : Hp} {v : V} {d : PyData} (s : Sf z H z' H') (h : Rg K z H v d) : Rg K z' H' v d := h.imp (Rv.mono s) (Gr.mono s.le s.ex)
theorem Rg.val {K : PySem.W.Frag} {z : Zs} {H : Hp} {v : V} {d : PyData} (h : Rg K z H v d) (e : isGr d = false) : Rv K z H v d := by
  rcases h with h | ⟨a, js, xs, rfl, _⟩
  · exact h
  · cases e
theorem Rg.cel {K : PySem.W.Frag} {z : Zs} {H : Hp} {v : V} {i : Nat} (h : Rg K z H v (cel i)) : Rv K z H v (cel i) := h.val rfl
structure EvOk (K : PySem.W.Frag) (z : Zs) (H : Hp) (env : Evn) (σ : L2.St) : Prop where
  el : env.length = σ.length
  ev : ∀ (k : Nat) d, env[k]? = some (some d) → ∃ v, σ[k]? = some (some v) ∧ Rg K z H v d
theorem EvOk.mono {K : PySem.W.Frag} {z z' : Zs} {H H' : Hp} {env : Evn} {σ : L2.St} (s : Sf z H z' H') (h : EvOk K z H env σ) : EvOk K z' H' env σ :=
  ⟨h.el, fun k d e => let ⟨v, h1, h2⟩ := h.ev k d e; ⟨v, h1, h2.mono s⟩⟩
abbrev RvL (K : PySem.W.Frag) (z : Zs) (H : Hp) : List V → List PyData → Prop := Paired (Rv K z H)
theorem RvL.mono {K : PySem.W.Frag} {z z' : Zs} {H H' : Hp} (s : Sf z H z' H') : ∀ {vs : List V} {ds : List PyData}, RvL K z H vs ds → RvL K z' H' vs ds
  | _, _, .nil => .nil
  | _, _, .cons a b => .cons (Rv.mono s a) (RvL.mono s b)

/-- a new list: nothing else speaks of it -/
def Fr (K : PySem.W.Frag) (z : Zs) (H : Hp) (z' : Zs) (H' : Hp) (v : V) (d : PyData) : Prop :=
  ∀ ds, d = .list ds → ∃ a xs, v = .ref a ∧ H' a = some (.lst xs) ∧ a ∉ z'.G ∧ a ∉ z'.μ ∧ StC K ⟨a :: z'.G, z'.μ, z'.S⟩ H' ∧ DqAll K ((⟨a :: z'.G, z'.μ, z'.S⟩ : Zs).mask H') xs ds ∧ Le (z.mask H) ((⟨a :: z'.G, z'.μ, z'.S⟩ : Zs).mask H')

/-! ### what a look at a value gives -/
/-- a datum, whose parts never change, whether it may change itself or not -/
def Pk (K : PySem.W.Frag) (z : Zs) (H : Hp) (v : V) (d : PyData) : Prop := Dq K (z.mask H) v d ∨ ∃ a xs ds, v = .ref a ∧ d = .list ds ∧ H a = some (.lst xs) ∧ DqAll K (z.mask H) xs ds
theorem Rv.look {K : PySem.W.Frag} {z : Zs} {H : Hp} {v : V} {d : PyData} (C : StC K z H) (h : Rv K z H v d) : Pk K z H v (peek z.S d) := by
  rcases h with h | ⟨i, a, rfl, h2, rfl⟩
  · have e : peek z.S d = d := by unfold peek; rw [h.noCel]
    rw [e]; exact .inl h
  · have hi : i < z.S.length := by rw [← C.len]; exact (List.getElem?_eq_some_iff.mp h2).1
    obtain ⟨xs, ds, e1, e2, e3⟩ := C.cl i a _ h2 (List.getElem?_eq_getElem hi)
    have e : peek z.S (cel i) = .list ds := by
      unfold peek
      rw [celOf_cel]
      simp only [List.getElem?_eq_getElem hi, e1]
    rw [e]
    exact .inr ⟨a, xs, ds, rfl, rfl, e2, e3⟩
theorem Pk.full {K : PySem.W.Frag} {z : Zs} {H : Hp} {v : V} {d : PyData} (h : Pk K z H v d) : Dq K H v d := by
  rcases h with h | ⟨a, xs, ds, rfl, rfl, h1, h2⟩
  · exact h.mono (z.mask_le H)
  · exact .lst h1 (h2.mono (z.mask_le H))
theorem Pk.list {K : PySem.W.Frag} {z : Zs} {H : Hp} {v : V} {ds : List PyData} (h : Pk K z H v (.list ds)) : ∃ a xs, v = .ref a ∧ H a = some (.lst xs) ∧ DqAll K (z.mask H) xs ds := by
  rcases h with h | ⟨a, xs, ds', rfl, e, h1, h2⟩
  · cases h with
    | lst h1 h2 => exact ⟨_, _, rfl, z.mask_le H _ _ h1, h2⟩
  · cases e; exact ⟨a, xs, rfl, h1, h2⟩
theorem Pk.tup {K : PySem.W.Frag} {z : Zs} {H : Hp} {v : V} {ds : List PyData} (h : Pk K z H v (.tuple ds)) : ∃ a xs, v = .ref a ∧ H a = some (.tup xs) ∧ DqAll K (z.mask H) xs ds := by
  rcases h with h | ⟨a, xs, ds', rfl, e, h1, h2⟩
  · cases h with
    | tup h1 h2 => exact ⟨_, _, rfl, z.mask_le H _ _ h1, h2⟩
  · cases e
theorem Pk.int {K : PySem.W.Frag} {z : Zs} {H : Hp} {v : V} {i : Int} (h : Pk K z H v (.int i)) : v = .int i := by
  rcases h with h | ⟨a, xs, ds', rfl, e, h1, h2⟩
  · cases h; rfl
  · cases e
theorem Pk.bool {K : PySem.W.Frag} {z : Zs} {H : Hp} {v : V} {i : Bool} (h : Pk K z H v (.bool i)) : v = .bl i := by
  rcases h with h | ⟨a, xs, ds', rfl, e, h1, h2⟩
  · cases h; rfl
  · cases e
theorem Rv.int {K : PySem.W.Frag} {z : Zs} {H : Hp} {v : V} {i : Int} (h : Rv K z H v (.int i)) : v = .int i := by
  rcases h with h | ⟨a, xs, e, _, _⟩
  · cases h; rfl
  · cases e
theorem Rv.bool {K : PySem.W.Frag} {z : Zs} {H : Hp} {v : V} {i : Bool} (h : Rv K z H v (.bool i)) : v = .bl i := by
  rcases h with h | ⟨a, xs, e, _, _⟩
  · cases h; rfl
  · cases e
theorem Rv.data {K : PySem.W.Frag} {z : Zs} {H : Hp} {v : V} {d : PyData} (h : Rv K z H v d) (e : celOf d = none) : Dq K (z.mask H) v d := by
  rcases h with h | ⟨i, a, rfl, _, _⟩
  · exact h
  · rw [celOf_cel] at e; cases e

/-! ### a new object -/
theorem Zs.mask_upd {z : Zs} {H : Hp} {p : Addr} {o : HO} (hp : H p = none) (hb : ¬ z.busy p) : z.mask (upd H p o) = upd (z.mask H) p o := by
  funext b
  unfold Zs.mask upd
  by_cases h : b = p
  · subst h; simp [hb]
  · simp [h]
theorem StC.notBusy {K : PySem.W.Frag} {z : Zs} {H : Hp} (C : StC K z H) {p : Addr} (hp : H p = none) : ¬ z.busy p ∧ p ∉ z.μ ∧ p ∉ z.G := by
  have h1 : p ∉ z.μ := fun h => by
    obtain ⟨i, hi, e⟩ := List.getElem_of_mem h
    have hi2 : i < z.S.length := by rw [← C.len]; exact hi
    obtain ⟨xs, ds, _, e2, _⟩ := C.cl i p _ (by rw [List.getElem?_eq_getElem hi, e]) (List.getElem?_eq_getElem hi2)
    rw [hp] at e2; cases e2
  have h2 : p ∉ z.G := fun h => (C.gm p h).2 hp
  refine ⟨fun h => ?_, h1, h2⟩
  rcases h with h | ⟨i, c, e, _, _⟩
  · exact h2 h
  · exact h1 (List.mem_of_getElem? e)
theorem Le.updN {H : Hp} {p : Addr} {o : HO} (hp : H p = none) : Le H (upd H p o) := fun b x e => by
  rw [upd_ne (ne_of_none e hp)]; exact e
theorem StC.alloc {K : PySem.W.Frag} {z : Zs} {H : Hp} (C : StC K z H) {p : Addr} (hp : H p = none) (o : HO) : StC K z (upd H p o) ∧ Sf z H z (upd H p o) := by
  obtain ⟨h1, h2, h3⟩ := C.notBusy hp
  have hm : z.mask (upd H p o) = upd (z.mask H) p o := Zs.mask_upd hp h1
  have hl : Le (z.mask H) (z.mask (upd H p o)) := by
    rw [hm]
    refine Le.updN ?_
    cases e : z.mask H p with
    | none => rfl
    | some x => rw [(Zs.mask_some.mp e).2] at hp; cases hp
  refine ⟨⟨C.len, C.nd, fun g hg => ⟨(C.gm g hg).1, ?_⟩, fun i a c e1 e2 => ?_⟩, ⟨rfl, ⟨[], by simp⟩, hl, fun g hg => ?_, fun _ _ e => e⟩⟩
  · rw [upd_ne (fun (e : g = p) => h3 (e ▸ hg))]; exact (C.gm g hg).2
  · obtain ⟨xs, ds, q1, q2, q3⟩ := C.cl i a c e1 e2
    exact ⟨xs, ds, q1, Le.updN hp _ _ q2, q3.mono hl⟩
  · rw [upd_ne (fun (e : g = p) => h3 (e ▸ hg))]
/-- a new list is fresh -/
theorem StC.fresh {K : PySem.W.Frag} {z : Zs} {H : Hp} (C : StC K z H) {p : Addr} (hp : H p = none) {xs : List V} {ds : List PyData} (h : DqAll K (z.mask H) xs ds) :
    Dq K (z.mask (upd H p (.lst xs))) (.ref p) (.list ds) ∧ Fr K z H z (upd H p (.lst xs)) (.ref p) (.list ds) := by
  obtain ⟨h1, h2, h3⟩ := C.notBusy hp
  have hm : z.mask (upd H p (.lst xs)) = upd (z.mask H) p (.lst xs) := Zs.mask_upd hp h1
  have hmp : z.mask H p = none := by
    cases e : z.mask H p with
    | none => rfl
    | some x => rw [(Zs.mask_some.mp e).2] at hp; cases hp
  refine ⟨.lst (by rw [hm]; exact upd_same) (h.mono (by rw [hm]; exact Le.updN hmp)), fun es e => ?_⟩
  cases e
  have hb : ∀ b, (⟨p :: z.G, z.μ, z.S⟩ : Zs).busy b ↔ b = p ∨ z.busy b := fun b => by
    unfold Zs.busy
    simp only [List.mem_cons]
    exact or_assoc
  have hme : (⟨p :: z.G, z.μ, z.S⟩ : Zs).mask (upd H p (.lst xs)) = z.mask H := by
    funext b
    unfold Zs.mask
    by_cases e : b = p
    · subst e
      rw [if_pos ((hb b).mpr (.inl rfl)), if_neg h1, hp]
    · by_cases e2 : z.busy b
      · rw [if_pos ((hb b).mpr (.inr e2)), if_pos e2]
      · rw [if_neg (fun q => ((hb b).mp q).elim e e2), if_neg e2, upd_ne e]
  refine ⟨p, xs, rfl, upd_same, h3, h2, ⟨C.len, C.nd, fun g hg => ?_, fun i a c e1 e2 => ?_⟩, by rw [hme]; exact h, by rw [hme]; exact Le.refl _⟩
  · rcases List.mem_cons.mp hg with rfl | hg
    · exact ⟨h2, by rw [upd_same]; simp⟩
    · exact ⟨(C.gm g hg).1, by rw [upd_ne (fun (e : g = p) => h3 (e ▸ hg))]; exact (C.gm g hg).2⟩
  · obtain ⟨xs', ds', q1, q2, q3⟩ := C.cl i a c e1 e2
    refine ⟨xs', ds', q1, Le.updN hp _ _ q2, ?_⟩
    rw [hme]; exact q3
end TW
end
section
set_option Elab.async false
set_option linter.all false
set_option maxRecDepth 100000
set_option maxHeartbeats 1000000
/-! TwOps: comparisons, operators, subscripts, slices, built-in functions and methods, over data. -/
namespace TW
open PySem PySem.Spec PyProof.Rows L2

theorem line_eq : line = sizeLine := by rw [sizeLine_eq]; rfl
def cpOp : Cp → CmpOp
  | .eq => .Eq | .ne => .NotEq | .lt => .Lt | .le => .LtE | .gt => .Gt | .ge => .GtE | .isin => .In | .notin => .NotIn | .is => .Is | .isnot => .IsNot
def opOp : Op → Operator
  | .add => .Add | .sub => .Sub | .mul => .Mult | .fdiv => .FloorDiv | .mod => .Mod | .pow => .Pow | .shl => .LShift | .shr => .RShift | .xor => .BitXor

/-! ### comparisons -/
def rC (K : PySem.W.Frag) (o : Cp) : R2 := fun x y H Q => ∃ d e b, Dq K H x d ∧ Dq K H y e ∧ cmpD o d e = some b ∧ Q (.bl b) H
theorem isNon_eq {K : PySem.W.Frag} {H : Hp} {x : V} {d : PyData} (h : Dq K H x d) : decide (x = V.non) = isNon d := by
  cases h <;> simp [isNon, scrD]
section
variable {X : Cx}
theorem eqS_inv {a b : PyData} {k : Bool} (h : eqS a b = some k) : SeqAt.shaped a = true ∧ SeqAt.shaped b = true ∧ k = PyData.eqv a b := by
  unfold eqS at h
  split at h
  · next hs => simp only [Bool.and_eq_true] at hs; cases h; exact ⟨hs.1, hs.2, rfl⟩
  · cases h
theorem eqD_inv {a b : PyData} {k : Bool} (h : eqD a b = some k) : (∃ x y, a = .str x ∧ b = .str y ∧ k = decide (x = y)) ∨ (∃ x y, a = .int x ∧ b = .int y ∧ k = decide (x = y)) ∨ (SeqAt.shaped a = true ∧ SeqAt.shaped b = true ∧ k = PyData.eqv a b) := by
  unfold eqD at h
  split at h
  · cases h; exact .inl ⟨_, _, rfl, rfl, rfl⟩
  · cases h; exact .inr (.inl ⟨_, _, rfl, rfl, rfl⟩)
  · exact .inr (.inr (eqS_inv h))
theorem inD_inv {d e : PyData} {k : Bool} (h : inD d e = some k) : ∃ ds, e = .list ds ∧ SeqAt.shaped d = true ∧ SeqAt.shaped (.list ds) = true ∧ k = (ds.any fun z => PyData.eqv z d) := by
  unfold inD at h
  split at h
  · split at h
    · next hs => simp only [Bool.and_eq_true] at hs; cases h; exact ⟨_, rfl, hs.1, hs.2, rfl⟩
    · cases h
  · cases h
theorem cmpI_inv {f : Int → Int → Bool} {d e : PyData} {k : Bool} (h : cmpI f d e = some k) : ∃ i j, d = .int i ∧ e = .int j ∧ k = f i j := by
  unfold cmpI at h
  split at h
  · cases h; exact ⟨_, _, rfl, rfl, rfl⟩
  · cases h
theorem isD_inv {d e : PyData} {k : Bool} (h : isD d e = some k) : (e = .none ∧ k = isNon d) ∨ ∃ i j, d = .bool i ∧ e = .bool j ∧ k = decide (i = j) := by
  unfold isD at h
  split at h
  · cases h; exact .inl ⟨rfl, rfl⟩
  · cases h; exact .inr ⟨_, _, rfl, rfl, rfl⟩
  · cases h
theorem op_C (hu : X.A.units + 65 < cLine) : ∀ o, OpR X (compareOp (cpOp o)) (rC X.K o) := by
  intro o pins s σ H x y v u Q I rx ry ⟨d, e, b, h1, h2, h3, q⟩
  have cl : ∀ {d : PyData}, SeqAt.shaped d = true → d.canLay0 = true := fun h => SeqAt.canLay_of_shaped h
  cases o with
  | eq =>
    rcases eqD_inv h3 with ⟨i, j, rfl, rfl, rfl⟩ | ⟨i, j, rfl, rfl, rfl⟩ | ⟨s1, s2, rfl⟩
    · cases h1; cases h2
      exact op_eq pins s σ H _ _ v u Q I rx ry ⟨rfl, by simpa using q⟩
    · cases h1; cases h2
      exact op_eq pins s σ H _ _ v u Q I rx ry ⟨rfl, by simpa using q⟩
    exact op_eqD (by omega) pins s σ H x y v u Q I rx ry ⟨d, e, h1.dp (cl s1), h2.dp (cl s2), s1, s2, q⟩
  | ne =>
    obtain ⟨k, h4, rfl⟩ := Option.map_eq_some_iff.mp h3
    rcases eqD_inv h4 with ⟨i, j, rfl, rfl, rfl⟩ | ⟨i, j, rfl, rfl, rfl⟩ | ⟨s1, s2, rfl⟩
    · cases h1; cases h2
      exact op_ne pins s σ H _ _ v u Q I rx ry ⟨rfl, by simpa using q⟩
    · cases h1; cases h2
      exact op_ne pins s σ H _ _ v u Q I rx ry ⟨rfl, by simpa using q⟩
    exact op_neD (by omega) pins s σ H x y v u Q I rx ry ⟨d, e, h1.dp (cl s1), h2.dp (cl s2), s1, s2, q⟩
  | isin =>
    obtain ⟨ds, rfl, s1, s2, rfl⟩ := inD_inv h3
    exact op_inD hu pins s σ H x y v u Q I rx ry ⟨d, ds, h1.dp (cl s1), h2.dp (cl s2), s1, s2, q⟩
  | notin =>
    obtain ⟨k, h4, rfl⟩ := Option.map_eq_some_iff.mp h3
    obtain ⟨ds, rfl, s1, s2, rfl⟩ := inD_inv h4
    exact op_notInD hu pins s σ H x y v u Q I rx ry ⟨d, ds, h1.dp (cl s1), h2.dp (cl s2), s1, s2, q⟩
  | lt =>
    obtain ⟨i, j, rfl, rfl, rfl⟩ := cmpI_inv h3
    cases h1; cases h2
    exact op_lt pins s σ H _ _ v u Q I rx ry ⟨i, j, rfl, rfl, q⟩
  | le =>
    obtain ⟨i, j, rfl, rfl, rfl⟩ := cmpI_inv h3
    cases h1; cases h2
    exact op_le pins s σ H _ _ v u Q I rx ry ⟨i, j, rfl, rfl, q⟩
  | gt =>
    obtain ⟨i, j, rfl, rfl, rfl⟩ := cmpI_inv h3
    cases h1; cases h2
    exact op_gt pins s σ H _ _ v u Q I rx ry ⟨i, j, rfl, rfl, q⟩
  | ge =>
    obtain ⟨i, j, rfl, rfl, rfl⟩ := cmpI_inv h3
    cases h1; cases h2
    exact op_ge pins s σ H _ _ v u Q I rx ry ⟨i, j, rfl, rfl, q⟩
  | is =>
    rcases isD_inv h3 with ⟨rfl, rfl⟩ | ⟨i, j, rfl, rfl, rfl⟩
    · cases h2
      exact op_isN pins s σ H x _ v u Q I rx ry ⟨rfl, by rw [isNon_eq h1]; exact q⟩
    · cases h1; cases h2
      exact op_isBl pins s σ H _ _ v u Q I rx ry ⟨i, j, rfl, rfl, q⟩
  | isnot =>
    obtain ⟨k, h4, rfl⟩ := Option.map_eq_some_iff.mp h3
    rcases isD_inv h4 with ⟨rfl, rfl⟩ | ⟨i, j, rfl, rfl, rfl⟩
    · cases h2
      exact op_notN pins s σ H x _ v u Q I rx ry ⟨rfl, by rw [isNon_eq h1]; exact q⟩
    · cases h1; cases h2
      exact op_notBl pins s σ H _ _ v u Q I rx ry ⟨i, j, rfl, rfl, q⟩
end

/-! ### a result that is a datum: an old one, or a new object -/
/-- what is told of a result: d at v, the heap grown -/
def Res (K : PySem.W.Frag) (z : Zs) (H : Hp) (d : PyData) (Q : VK) : Prop := ∀ v H', StC K z H' → Sf z H z H' → Dq K (z.mask H') v d → ((∀ ds, d = .list ds → Fr K z H z H' v d) → Q v H')
/-- a result that may be an old list -/
def ResO (K : PySem.W.Frag) (z : Zs) (H : Hp) (d : PyData) (Q : VK) : Prop := ∀ v H', StC K z H' → Sf z H z H' → Dq K (z.mask H') v d → Q v H'
theorem Res.atom {K : PySem.W.Frag} {z : Zs} {H : Hp} {d : PyData} {Q : VK} {v : V} (C : StC K z H) (h : Res K z H d Q) (r : ∀ H', Dq K H' v d) (n : ∀ ds, d ≠ .list ds) : Q v H :=
  h v H C (Sf.refl z H) (r _) fun ds e => (n ds e).elim
theorem Res.lst {K : PySem.W.Frag} {z : Zs} {H : Hp} {ds : List PyData} {xs : List V} {Q : VK} (C : StC K z H) (h : Res K z H (.list ds) Q) (r : DqAll K (z.mask H) xs ds) (p : Addr) (hp : H p = none) : Q (.ref p) (upd H p (.lst xs)) := by
  obtain ⟨c, s⟩ := C.alloc hp (.lst xs)
  obtain ⟨a, b⟩ := C.fresh hp r
  exact h _ _ c s a fun _ _ => b
theorem Dq.newTup {K : PySem.W.Frag} {z : Zs} {H : Hp} {ds : List PyData} {xs : List V} (C : StC K z H) (r : DqAll K (z.mask H) xs ds) (p : Addr) (hp : H p = none) : Dq K (z.mask (upd H p (.tup xs))) (.ref p) (.tuple ds) := by
  obtain ⟨h1, _, _⟩ := C.notBusy hp
  have hm : z.mask (upd H p (.tup xs)) = upd (z.mask H) p (.tup xs) := Zs.mask_upd hp h1
  have hmp : z.mask H p = none := by
    cases e : z.mask H p with
    | none => rfl
    | some x => rw [(Zs.mask_some.mp e).2] at hp; cases hp
  exact .tup (by rw [hm]; exact upd_same) (r.mono (by rw [hm]; exact Le.updN hmp))
theorem Res.tup {K : PySem.W.Frag} {z : Zs} {H : Hp} {ds : List PyData} {xs : List V} {Q : VK} (C : StC K z H) (h : Res K z H (.tuple ds) Q) (r : DqAll K (z.mask H) xs ds) (p : Addr) (hp : H p = none) : Q (.ref p) (upd H p (.tup xs)) := by
  obtain ⟨c, s⟩ := C.alloc hp (.tup xs)
  exact h _ _ c s (Dq.newTup C r p hp) fun _ e => by cases e

/-! ### operators -/
def rB (K : PySem.W.Frag) (o : Op) : R2 := fun x y H Q => ∃ z d e r, StC K z H ∧ Pk K z H x d ∧ Pk K z H y e ∧ binD o d e = some r ∧ Res K z H r Q
theorem log2_bits {i : Int} {n : Nat} (h : i.natAbs.log2 < n) : Builtin.Int.intBits i ≤ n := by
  unfold Builtin.Int.intBits
  split <;> omega
section
variable {X : Cx}
theorem rI_res {K : PySem.W.Frag} {z : Zs} {H : Hp} {i : Int} {Q : VK} (C : StC K z H) (h : Res K z H (.int i) Q) : Q (.int i) H := h.atom C (fun _ => .int i) fun _ e => by cases e
theorem intD_inv {ok : Int → Int → Bool} {f : Int → Int → Int} {d e r : PyData} (h : intD ok f d e = some r) : ∃ i j, d = .int i ∧ e = .int j ∧ ok i j = true ∧ r = .int (f i j) := by
  unfold intD at h
  split at h
  · split at h
    · next hk => cases h; exact ⟨_, _, rfl, rfl, hk, rfl⟩
    · cases h
  · cases h
theorem op_B : ∀ o, OpR X (binaryOp (opOp o)) (rB X.K o) := by
  intro o pins s σ H x y v u Q I rx ry ⟨z, d, e, r, C, h1, h2, h3, q⟩
  cases o with
  | add =>
    change addD d e = some r at h3
    unfold addD at h3
    split at h3
    · next i j =>
      obtain rfl := h1.int; obtain rfl := h2.int
      cases h3
      exact op_add pins s σ H _ _ v u Q I rx ry ⟨i, j, rfl, rfl, rI_res C q⟩
    · next xs ys =>
      split at h3
      · next hl =>
        cases h3
        obtain ⟨a, as, rfl, e1, e2⟩ := h1.list
        obtain ⟨b, bs, rfl, e3, e4⟩ := h2.list
        rw [line_eq] at hl
        exact op_cat pins s σ H _ _ v u Q I rx ry ⟨a, b, as, bs, rfl, rfl, e1, e3, by rw [e2.len, e4.len]; exact hl, fun p hp => q.lst C (e2.app e4) p hp⟩
      · cases h3
    · next xs ys =>
      split at h3
      · next hl =>
        cases h3
        obtain ⟨a, as, rfl, e1, e2⟩ := h1.tup
        obtain ⟨b, bs, rfl, e3, e4⟩ := h2.tup
        simp only [Bool.and_eq_true, decide_eq_true_eq, Bool.not_eq_true'] at hl
        rw [line_eq] at hl
        refine op_catT pins s σ H _ _ v u Q I rx ry ⟨a, b, as, bs, rfl, rfl, SqT.of e1, SqT.of e3, ?_, by rw [e2.len, e4.len]; exact hl.2, fun e => ?_, fun _ p hp => q.tup C (e2.app e4) p hp⟩
        · intro e
          subst e
          cases e2
          simp at hl
        · subst e
          cases e4
          rw [List.append_nil] at q
          rcases h1 with h1 | ⟨_, _, _, _, e, _, _⟩
          · exact q _ _ C (Sf.refl z H) h1 fun ds e => by cases e
          · cases e
      · cases h3
    · cases h3
  | sub =>
    change subD d e = some r at h3
    unfold subD at h3
    split at h3
    · next i j =>
      obtain rfl := h1.int; obtain rfl := h2.int
      cases h3
      exact op_sub pins s σ H _ _ v u Q I rx ry ⟨i, j, rfl, rfl, rI_res C q⟩
    · cases h3
  | mul =>
    change mulD d e = some r at h3
    unfold mulD at h3
    split at h3
    · next i j =>
      split at h3
      · next hk =>
        obtain rfl := h1.int; obtain rfl := h2.int
        cases h3
        simp only [mulOk, small64, Bool.or_eq_true, decide_eq_true_eq] at hk
        rcases hk with (hk | hk) | hk
        · exact op_mul pins s σ H _ _ v u Q I rx ry ⟨i, j, rfl, rfl, .inl (by omega), rI_res C q⟩
        · exact op_mul pins s σ H _ _ v u Q I rx ry ⟨i, j, rfl, rfl, .inr (by omega), rI_res C q⟩
        · exact op_mulW pins s σ H _ _ v u Q I rx ry ⟨i, j, rfl, rfl, hk, rI_res C q⟩
      · cases h3
    · next xs k =>
      split at h3
      · next hk =>
        cases h3
        obtain rfl := h2.int
        obtain ⟨a, as, rfl, e1, e2⟩ := h1.list
        simp only [Bool.and_eq_true, decide_eq_true_eq] at hk
        rw [line_eq] at hk
        exact op_rep pins s σ H _ _ v u Q I rx ry ⟨a, k, as, rfl, rfl, e1, by omega, hk.1.2, by rw [e2.len]; exact hk.2, fun p hp => q.lst C (e2.rep _) p hp⟩
      · cases h3
    · cases h3
  | fdiv =>
    obtain ⟨i, j, rfl, rfl, hk, rfl⟩ := intD_inv h3
    obtain rfl := h1.int; obtain rfl := h2.int
    simp only [divOk, Bool.and_eq_true, decide_eq_true_eq] at hk
    exact op_fdivW pins s σ H _ _ v u Q I rx ry ⟨i, j, rfl, rfl, hk, rI_res C q⟩
  | mod =>
    obtain ⟨i, j, rfl, rfl, hk, rfl⟩ := intD_inv h3
    obtain rfl := h1.int; obtain rfl := h2.int
    exact op_mod pins s σ H _ _ v u Q I rx ry ⟨i, j, rfl, rfl, by simpa using hk, rI_res C q⟩
  | pow =>
    obtain ⟨i, j, rfl, rfl, hk, rfl⟩ := intD_inv h3
    obtain rfl := h1.int; obtain rfl := h2.int
    simp only [powOk, small64, Bool.and_eq_true, Bool.or_eq_true, decide_eq_true_eq] at hk
    rcases hk.2 with h | h
    · exact op_pow pins s σ H _ _ v u Q I rx ry ⟨i, j, rfl, rfl, ⟨hk.1, h.1, h.2⟩, rI_res C q⟩
    · refine (opI (C := fun i j => 0 ≤ j ∧ (Builtin.Int.intBits i : Int) * j ≤ 2 ^ 27) (g := fun i j => i ^ j.toNat) fun _ _ _ _ _ _ _ hc q => pow_int hc.1 hc.2 q) pins s σ H _ _ v u Q I rx ry ⟨i, j, rfl, rfl, ⟨hk.1, ?_⟩, rI_res C q⟩
      have hb := log2_bits h.2
      have h1 : (Builtin.Int.intBits i : Int) ≤ 9000 := by omega
      calc (Builtin.Int.intBits i : Int) * j ≤ 9000 * j := Int.mul_le_mul_of_nonneg_right h1 hk.1
        _ ≤ 9000 * 64 := Int.mul_le_mul_of_nonneg_left h.1 (by decide)
        _ ≤ 2 ^ 27 := by decide
  | shl =>
    obtain ⟨i, j, rfl, rfl, hk, rfl⟩ := intD_inv h3
    obtain rfl := h1.int; obtain rfl := h2.int
    simp only [shlOk, small64, Bool.and_eq_true, decide_eq_true_eq] at hk
    exact op_shl pins s σ H _ _ v u Q I rx ry ⟨i, j, rfl, rfl, ⟨hk.1.1, hk.1.2, hk.2⟩, rI_res C q⟩
  | shr => cases h3
  | xor => cases h3
end
end TW
end
section
set_option Elab.async false
set_option linter.all false
set_option maxRecDepth 100000
set_option maxHeartbeats 1000000
/-! TwFn: what a def promises where nothing is being shown (guards), its calls, its body, the law's own call. -/
namespace TW
open PySem PySem.Spec PyProof.Rows L2

section
variable (P : Program) (w : World) (K : PySem.W.Frag) (mg : Str → Option Value) (base : Heap) (CX : CXT)
/-- as FnOk, told of the stacks on which no repr runs -/
structure FnG (k : Nat) (f : Addr) (fd : FuncData) (ps : List Str) (sp : Sp) : Prop where
  len : ∀ vs H Q E, sp vs H Q E → vs.length = ps.length
  go : ∀ (A : Around) (outer : List Env) (s : Shared) (H : Hp) (args : Args) (us : List Value) (vs : List V) (Q : VK) (E : XK),
    Room k A → A.guards = some [] → Env0 P w K mg base A outer s H → BindsTo s fd args (ps.zip us) →
    Vals vs us → sp vs H Q E → codeAny (model P w) A (.call (.ref f) args) (CR CX outer P w H s Q E) s
end
section
variable {X : Cx} {CX : CXT} {k : Nat} {f : Addr} {fd : FuncData} {ps : List Str} {sp : Sp} {E : XK} {x : Str} {p pos : Pos} {t tk : TA}
variable {pins : List (Addr × Obj)} {σ : L2.St} {H : Hp} {s : Shared} {Q : VK}
/-- behind a def's code: what the caller has -/
theorem crEnd (hx : Passes CX X E) (I : L2.Inv X pins σ H s) : ∀ (r : Result) (s' : Shared), CR CX X.stack X.prog X.w H s Q E r s' →
    (match r with | .ok (.ret u) => EP X pins σ Q u s' | .ok _ => False | .error e => X.xe e s')
  | .error e, s', h => hx pins σ H s e s' I h
  | .ok (.ret _), _, h => I.after h
  | .ok .next, _, h => h.elim
  | .ok .brk, _, h => h.elim
  | .ok .cont, _, h => h.elim
theorem runG {ds us : List Value} {dvs vs : List V} (F : FnG X.prog X.w X.K X.mg X.base CX k f fd ps sp) (hr : Room k X.A) (hg : X.A.guards = some []) (hb : Binds X.K fd ps ds) (hd : Vals dvs ds)
    (hx : Passes CX X E) (I : L2.Inv X pins σ H s) (r : Vals vs us) (h : sp (vs ++ dvs) H Q E) : wpAny (model X.prog X.w) X.A (call (.ref f) us) (EP X pins σ Q) X.xe s := by
  have both := Vals.append r hd
  have hl := F.len _ _ _ _ h
  have go := F.go X.A X.stack s H ⟨us, []⟩ _ _ Q E hr hg I.env0 (hb s us I.kIn (both.length ▸ hl)) both h
  refine wpAny_call (codeAny_mono go fun r s' hq => ?_)
  have q := crEnd hx I r s' hq
  cases r with
  | error e => exact q
  | ok fl => cases fl <;> first | exact q | exact q.elim
theorem runGk {ks : List Str} {g : List Value → List Value → List Value} {gV : List V → List V → List V} {us ws : List Value} {vs zs : List V} (F : FnG X.prog X.w X.K X.mg X.base CX k f fd ps sp) (hr : Room k X.A) (hg : X.A.guards = some [])
    (hb : KBinds X.K fd ps ks g gV) (hx : Passes CX X E) (I : L2.Inv X pins σ H s) (r : Vals vs us) (rz : Vals zs ws) (h : sp (gV vs zs) H Q E) :
    wpAny (model X.prog X.w) X.A (call (.ref f) us (ks.zip ws)) (EP X pins σ Q) X.xe s := by
  have both := hb.rel r rz
  have hl := F.len _ _ _ _ h
  have go := F.go X.A X.stack s H ⟨us, ks.zip ws⟩ _ _ Q E hr hg I.env0 (hb.to s us ws I.kIn (both.length ▸ hl)) both h
  refine wpAny_call (codeAny_mono go fun r s' hq => ?_)
  have q := crEnd hx I r s' hq
  cases r with
  | error e => exact q
  | ok fl => cases fl <;> first | exact q | exact q.elim
variable {e : Expr} {es : List Expr}
theorem peG (F : FnG X.prog X.w X.K X.mg X.base CX k f fd ps sp) (hr : Room k X.A) (hgu : X.A.guards = some []) (hg : Gl X x) (hm : X.mg x = some (.ref f)) (hk : PySem.W.keepIn X.K (.ref f) = true)
    (hb : Binds X.K fd ps []) (hx : Passes CX X E) (ha : PA X (e :: es) t) (hdb : (x == ("__debug__" : Str)) = false)
    (he : starEach (e :: es) X.env = (false, eval e X.env) :: starEach es X.env) (hpl : (backTo pos (starEach es X.env)).any (·.1) = false) : PE X (.Call (.Name x p) (e :: es) [] pos) (tCall sp [] E t) :=
  ⟨fun pins s σ H Q I h => wpAny_Call_Name_kw (ld_glob I hg hm (PySem.W.callWith_K I.ok.mod.kin hk
    (thn (ha.run pos pins s σ H _ I h) fun us s1 ⟨vs, H1, I1, r, q⟩ => ⟨I1.kIn, runG F hr hgu hb .nil hx I1 r q⟩) he hpl) hdb)⟩
theorem peG0 (F : FnG X.prog X.w X.K X.mg X.base CX k f fd ps sp) (hr : Room k X.A) (hgu : X.A.guards = some []) (hg : Gl X x) (hm : X.mg x = some (.ref f)) (hk : PySem.W.keepIn X.K (.ref f) = true)
    (hb : Binds X.K fd ps []) (hx : Passes CX X E) (hdb : (x == ("__debug__" : Str)) = false) : PE X (.Call (.Name x p) [] [] pos) (tCall sp [] E tNil) :=
  ⟨fun pins s σ H Q I h => wpAny_Call_Name_kw (ld_glob I hg hm (PySem.W.callWith_K0 I.kIn hk (runG (us := []) F hr hgu hb .nil hx I .nil h)) hdb)⟩
end

section
variable {P : Program} {w : World} {K : PySem.W.Frag} {mg : Str → Option Value} {base : Heap} {CX : CXT}
/-- a def by its body -/
theorem fnG_of {k : Nat} {f : Addr} {name qual : Str} {params : Arguments} {body : List Stmt} {scope : Scope} {dV kV doc pm cdv ct oc : Value} {an od : Option Addr} {osl : Array (Option Value)} {N ps : List Str} {sp : Sp}
    (lk : K.lookup f = some ⟨oc, od, .func (PySem.W.fnOf name qual params body scope dV kV doc pm an cdv ct), osl⟩) (hcd : PySem.W.codeIn K cdv qual = true) (S : FnScope N ps scope)
    (len : ∀ vs H Q E, sp vs H Q E → vs.length = ps.length)
    (hbody : ∀ (A : Around) (outer : List Env) (s : Shared) (H : Hp) (vs : List V) (Q : VK) (E : XK), Room k (A.deeper (envOfC qual scope s.heap.objs.size f cdv)) → A.guards = some [] → sp vs H Q E →
      ∃ t, PSs (cxOf CX P w K mg base N qual scope f cdv A outer s H E) body t ∧ t ⟨fun _ H' => Q .non H', Q, fun _ _ => False, fun _ _ => False⟩ (start N vs) H) :
    FnG P w K mg base CX (k + 1) f (PySem.W.fnOf name qual params body scope dV kV doc pm an cdv ct) ps sp := by
  refine ⟨len, fun A outer s H args us vs Q E hr hgu e0 hb r hsp => ?_⟩
  have KX : K.In s.heap := PySem.W.Frag.In.keeps e0.mod.kin fun b o e => (e0.bs b o e).1
  have lim : s.heap.NoLimit := e0.mod.nolimit.keeps fun b o e => (e0.bs b o e).1
  have hkind : ∀ y ∈ ps.zip us, scope.names.lookup y.1 = some .local ∨ (scope.names.lookup y.1 = some .cell ∧ ((cellsFrom (s.heap.objs.size + 1) scope.names []).lookup y.1).isSome = true) := by
    intro y hy
    have hm : y.1 ∈ ps := (List.of_mem_zip (show (y.1, y.2) ∈ ps.zip us from hy)).1
    exact (S.par y.1 hm).imp id fun q => ⟨q, PySem.W.cellsFrom_some _ _ _ (.inl q)⟩
  refine codeAny_call_function hr.depth (KX _ _ lk) rfl S.co S.gen rfl (PySem.W.codeRec_of KX hcd) (hb _ _ _ _ ?_)
  refine wpAny_newFunctionEnv_cells S.kind hkind fun env he s1 x => ?_
  subst he
  refine ⟨lim.keeps x.toInCall.keep, codeAny_func ?_⟩
  obtain ⟨t, ht, hq⟩ := hbody A outer s H vs Q E (hr.deeper _) hgu hsp
  have I := inv_start (CX := CX) (E := E) S hr.hd e0 (len _ _ _ _ hsp) r x
  refine wpAny_mono (ht.run [] s1 (start N vs) H _ I hq) (fun fl s' hs => ?_) fun e s' hs => hs
  match fl, hs with
  | .ret u, ⟨v, σ', H', J, rv, q⟩ => exact ⟨v, H', J.os, J.bare, J.base, J.hok, rv, q⟩
  | .next, ⟨σ', H', J, q⟩ => exact ⟨V.non, H', J.os, J.bare, J.base, J.hok, rfl, q⟩
  | .brk, ⟨_, _, _, q⟩ => exact q.elim
  | .cont, ⟨_, _, _, q⟩ => exact q.elim
end
end TW
end
section
set_option Elab.async false
set_option linter.all false
set_option maxRecDepth 100000
set_option maxHeartbeats 1000000
/-! TwBi: built-in functions, subscripts, slices and methods over data. -/
namespace TW
open PySem PySem.Spec PyProof.Rows L2

abbrev PkL (K : PySem.W.Frag) (z : Zs) (H : Hp) : List V → List PyData → Prop := Paired (Pk K z H)
theorem one_inv {f : PyData → Option PyData} {ds : List PyData} {r : PyData} (h : one f ds = some r) : ∃ d, ds = [d] ∧ f d = some r := by
  unfold one at h
  split at h
  · exact ⟨_, rfl, h⟩
  · cases h
theorem two_inv {f : PyData → PyData → Option PyData} {ds : List PyData} {r : PyData} (h : two f ds = some r) : ∃ d e, ds = [d, e] ∧ f d e = some r := by
  unfold two at h
  split at h
  · exact ⟨_, _, rfl, h⟩
  · cases h
theorem PkL.one {K : PySem.W.Frag} {z : Zs} {H : Hp} {vs : List V} {d : PyData} (h : PkL K z H vs [d]) : ∃ v, vs = [v] ∧ Pk K z H v d := by
  cases h with
  | cons a b => cases b; exact ⟨_, rfl, a⟩
theorem PkL.two {K : PySem.W.Frag} {z : Zs} {H : Hp} {vs : List V} {d e : PyData} (h : PkL K z H vs [d, e]) : ∃ v w, vs = [v, w] ∧ Pk K z H v d ∧ Pk K z H w e := by
  cases h with
  | cons a b =>
    cases b with
    | cons a2 b2 => cases b2; exact ⟨_, _, rfl, a, a2⟩
theorem Pk.scr {K : PySem.W.Frag} {z : Zs} {H : Hp} {v : V} {ds : List PyData} (h : Pk K z H v (.dict [(.bool true, .list ds)])) : ∃ (a : Addr) (ns : List Int), v = .ref a ∧ ds = ns.map PyData.int ∧ SqL K H a (ns.map V.int) ∧ ns.length ≤ 63 := by
  rcases h with h | ⟨_, _, _, _, e, _, _⟩
  · generalize hd : PyData.dict [(.bool true, .list ds)] = d at h
    cases h with
    | scr h n =>
      unfold scrD at hd
      simp only [PyData.dict.injEq, List.cons.injEq, Prod.mk.injEq, PyData.list.injEq, and_true, true_and] at hd
      exact ⟨_, _, rfl, hd, (z.mask_le H).sqL h, n⟩
    | _ => cases hd
  · cases e
theorem Pk.ty {K : PySem.W.Frag} {z : Zs} {H : Hp} {v : V} {d : PyData} (h : Pk K z H v d) : Dq K H v d := h.full

/-- of built-in functions: what is asked, what is told -/
def rBi (K : PySem.W.Frag) (b : Bi) : List V → Hp → VK → Prop := fun vs H Q => ∃ z ds r, StC K z H ∧ PkL K z H vs ds ∧ biD b ds = some r ∧ Res K z H r Q
theorem bl_res {K : PySem.W.Frag} {z : Zs} {H : Hp} {i : Bool} {Q : VK} (C : StC K z H) (h : Res K z H (.bool i) Q) : Q (.bl i) H := h.atom C (fun _ => .bl i) fun _ e => by cases e
theorem str_res {K : PySem.W.Frag} {z : Zs} {H : Hp} {i : Str} {Q : VK} (C : StC K z H) (h : Res K z H (.str i) Q) : Q (.str i) H := h.atom C (fun _ => .str i) fun _ e => by cases e
section
variable {X : Cx}
theorem cb_len : CallR X (.builtin "len") (rBi X.K .len) := by
  intro pins s σ H xs us Q I r ⟨z, ds, d, C, p, e, q⟩
  replace e := one_inv e
  obtain ⟨d1, rfl, e⟩ := e
  obtain ⟨v, rfl, hv⟩ := p.one
  unfold lenD at e
  split at e
  · obtain ⟨a, ys, rfl, h1, h2⟩ := hv.list
    cases e
    exact call_len_seq pins s σ H _ us Q I r ⟨a, ys, rfl, .inl (SqL.of h1), by rw [h2.len]; exact rI_res C q⟩
  · obtain ⟨a, ys, rfl, h1, h2⟩ := hv.tup
    cases e
    exact call_len_seq pins s σ H _ us Q I r ⟨a, ys, rfl, .inr (SqT.of h1), by rw [h2.len]; exact rI_res C q⟩
  · obtain ⟨a, ns, rfl, rfl, h1, _⟩ := hv.scr
    cases e
    exact call_len_seq pins s σ H _ us Q I r ⟨a, _, rfl, .inl h1, by rw [List.length_map]; rw [List.length_map] at q; exact rI_res C q⟩
  · cases e
theorem cb_int : CallR X (.type "int") (rBi X.K .int) := by
  intro pins s σ H xs us Q I r ⟨z, ds, d, C, p, e, q⟩
  replace e := one_inv e
  obtain ⟨d1, rfl, e⟩ := e
  obtain ⟨v, rfl, hv⟩ := p.one
  unfold intOfD at e
  split at e
  · obtain rfl := hv.int
    cases e
    exact call_int1 pins s σ H _ us Q I r (.inl ⟨_, rfl, rI_res C q⟩)
  · obtain rfl := hv.bool
    cases e
    exact call_int1 pins s σ H _ us Q I r (.inr ⟨_, rfl, rI_res C q⟩)
  · cases e
theorem iiD_inv {f : Int → Int → Int} {d e r : PyData} (h : iiD f d e = some r) : ∃ i j, d = .int i ∧ e = .int j ∧ r = .int (f i j) := by
  unfold iiD at h
  split at h
  · cases h; exact ⟨_, _, rfl, rfl, rfl⟩
  · cases h
theorem cb_max (hc : X.calm = true) : CallR X (.builtin "max") (rBi X.K .max2) := by
  intro pins s σ H xs us Q I r ⟨z, ds, d, C, p, e, q⟩
  replace e := two_inv e
  obtain ⟨d1, d2, rfl, e⟩ := e
  obtain ⟨v, w, rfl, hv, hw⟩ := p.two
  obtain ⟨i, j, rfl, rfl, rfl⟩ := iiD_inv e
  obtain rfl := hv.int; obtain rfl := hw.int
  exact call_max2 hc pins s σ H _ us Q I r ⟨i, j, rfl, rI_res C q⟩
theorem cb_min (hc : X.calm = true) : CallR X (.builtin "min") (rBi X.K .min2) := by
  intro pins s σ H xs us Q I r ⟨z, ds, d, C, p, e, q⟩
  replace e := two_inv e
  obtain ⟨d1, d2, rfl, e⟩ := e
  obtain ⟨v, w, rfl, hv, hw⟩ := p.two
  obtain ⟨i, j, rfl, rfl, rfl⟩ := iiD_inv e
  obtain rfl := hv.int; obtain rfl := hw.int
  exact call_min2 hc pins s σ H _ us Q I r ⟨i, j, rfl, rI_res C q⟩
theorem cb_sum (hc : X.calm = true) : CallR X (.builtin "sum") (rBi X.K .sum) := by
  intro pins s σ H xs us Q I r ⟨z, ds, d, C, p, e, q⟩
  replace e := one_inv e
  obtain ⟨d1, rfl, e⟩ := e
  obtain ⟨v, rfl, hv⟩ := p.one
  unfold sumD at e
  split at e
  · obtain ⟨a, ys, rfl, h1, h2⟩ := hv.list
    obtain ⟨ns, e1, rfl⟩ := Option.map_eq_some_iff.mp e
    obtain rfl := h2.ints e1
    exact cr_sum hc pins s σ H _ us Q I r ⟨a, ns, rfl, SqL.of h1, rI_res C q⟩
  · cases e
theorem cb_all (hc : X.calm = true) : CallR X (.builtin "all") (rBi X.K .all) := by
  intro pins s σ H xs us Q I r ⟨z, ds, d, C, p, e, q⟩
  replace e := one_inv e
  obtain ⟨d1, rfl, e⟩ := e
  obtain ⟨v, rfl, hv⟩ := p.one
  unfold boolsD at e
  split at e
  · obtain ⟨a, ys, rfl, h1, h2⟩ := hv.list
    obtain ⟨ns, e1, rfl⟩ := Option.map_eq_some_iff.mp e
    obtain rfl := h2.bools e1
    exact cr_all hc pins s σ H _ us Q I r ⟨a, ns, rfl, SqL.of h1, bl_res C q⟩
  · cases e
theorem cb_any (hc : X.calm = true) : CallR X (.builtin "any") (rBi X.K .any) := by
  intro pins s σ H xs us Q I r ⟨z, ds, d, C, p, e, q⟩
  replace e := one_inv e
  obtain ⟨d1, rfl, e⟩ := e
  obtain ⟨v, rfl, hv⟩ := p.one
  unfold boolsD at e
  split at e
  · obtain ⟨a, ys, rfl, h1, h2⟩ := hv.list
    obtain ⟨ns, e1, rfl⟩ := Option.map_eq_some_iff.mp e
    obtain rfl := h2.bools e1
    exact cr_any hc pins s σ H _ us Q I r ⟨a, ns, rfl, SqL.of h1, bl_res C q⟩
  · cases e
theorem cb_list : CallR X (.type "list") (rBi X.K .list) := by
  intro pins s σ H xs us Q I r ⟨z, ds, d, C, p, e, q⟩
  replace e := one_inv e
  obtain ⟨d1, rfl, e⟩ := e
  obtain ⟨v, rfl, hv⟩ := p.one
  unfold listD at e
  split at e
  · obtain ⟨a, ys, rfl, h1, h2⟩ := hv.list
    cases e
    exact call_list_of pins s σ H _ us Q I r ⟨a, ys, rfl, .inl (SqL.of h1), fun p hp => q.lst C h2 p hp⟩
  · obtain ⟨a, ys, rfl, h1, h2⟩ := hv.tup
    cases e
    exact call_list_of pins s σ H _ us Q I r ⟨a, ys, rfl, .inr (SqT.of h1), fun p hp => q.lst C h2 p hp⟩
  · cases e
theorem cb_tuple : CallR X (.type "tuple") (rBi X.K .tuple) := by
  intro pins s σ H xs us Q I r ⟨z, ds, d, C, p, e, q⟩
  replace e := one_inv e
  obtain ⟨d1, rfl, e⟩ := e
  obtain ⟨v, rfl, hv⟩ := p.one
  unfold tupleD at e
  split at e
  · obtain ⟨a, ys, rfl, h1, h2⟩ := hv.list
    cases e
    exact call_tuple_of pins s σ H _ us Q I r ⟨a, ys, rfl, .inl ⟨SqL.of h1, fun p hp => q.tup C h2 p hp⟩⟩
  · obtain ⟨a, ys, e1, h1, h2⟩ := hv.tup
    cases e
    rcases hv with hv | ⟨_, _, _, _, e, _, _⟩
    · subst e1
      exact call_tuple_of pins s σ H _ us Q I r ⟨a, ys, rfl, .inr ⟨SqT.of h1, q _ _ C (Sf.refl z H) hv fun _ e => by cases e⟩⟩
    · cases e
  · cases e
theorem cb_divmod : CallR X (.builtin "divmod") (rBi X.K .divmod) := by
  intro pins s σ H xs us Q I r ⟨z, ds, d, C, p, e, q⟩
  replace e := two_inv e
  obtain ⟨d1, d2, rfl, e⟩ := e
  obtain ⟨v, w, rfl, hv, hw⟩ := p.two
  unfold divmodD at e
  split at e
  · next i j =>
    split at e
    · next hk =>
      obtain rfl := hv.int; obtain rfl := hw.int
      cases e
      simp only [Bool.and_eq_true, decide_eq_true_eq] at hk
      exact call_divmod pins s σ H _ us Q I r ⟨i, j, rfl, hk, fun p hp => q.tup C (.cons (.int _) (.cons (.int _) .nil)) p hp⟩
    · cases e
  · cases e
/-- repr of data -/
theorem cb_repr (hgu : X.A.guards = some []) (hu : X.A.units + 70 < cLine) : CallR X (.builtin "repr") (rBi X.K .repr) := by
  intro pins s σ H xs us Q I r ⟨z, ds, d, C, p, e, q⟩
  replace e := one_inv e
  obtain ⟨d1, rfl, e⟩ := e
  obtain ⟨v, rfl, hv⟩ := p.one
  unfold reprD at e
  split at e
  · next hk =>
    cases e
    simp only [Bool.and_eq_true, decide_eq_true_eq] at hk
    obtain ⟨⟨⟨h1, h2⟩, h3⟩, h4⟩ := hk
    rw [line_eq] at h3
    obtain ⟨u, rfl, ru⟩ := vals1 r
    have fin : ∀ h' tk t, (∀ b o, s.heap.get? b = some o → h'.get? b = some o) → EP X pins σ Q (.str d1.shown t) { s with heap := h', toks := tk } := fun h' tk t hk =>
      ⟨.str _, H, I.kept hk, ⟨_, rfl⟩, str_res C q⟩
    have D := hv.full
    obtain ⟨as, R⟩ := Dp.reads I d1 v u (D.dp h2) ru
    have big : ∀ a, u = .ref a → wpAny (model X.prog X.w) X.A (call (.builtin "repr") [u]) (EP X pins σ Q) X.xe s := fun a e => by
      subst e
      exact repr_of_reads' R h1 (PyData.noDict_hsm (PyData.hasDict_of_canLay d1 h2)) hgu (by omega) (fun _ _ e => e) (fun h' t tk hk => fin h' tk t hk) (by omega)
    cases D with
    | non => cases ru; exact PySem.P.repr_of_none (fin _ _ _ fun _ _ e => e)
    | bl b =>
      cases ru
      refine PySem.P.repr_of_bool ?_
      have := fin s.heap (s.toks + 1) s.toks fun _ _ e => e
      simpa only [PyData.shown] using this
    | int i =>
      obtain ⟨t, rfl⟩ := ru
      exact PySem.P.repr_of_int (by simpa [PyData.showable] using h1) (fin _ _ _ fun _ _ e => e)
    | str x =>
      obtain ⟨t, rfl⟩ := ru
      exact PySem.P.repr_of_str (fin _ _ _ fun _ _ e => e) (by simp only [PyData.shown] at h3; omega)
    | lst _ _ => exact big _ ru
    | tup _ _ => exact big _ ru
    | edict _ => exact big _ ru
    | scr _ _ => exact big _ ru
  · cases e
end
end TW
end
section
set_option Elab.async false
set_option linter.all false
set_option maxRecDepth 100000
set_option maxHeartbeats 1000000
/-! TwBi2: isinstance, len(set(..)), subscripts, slices, methods. -/
namespace TW
open PySem PySem.Spec PyProof.Rows L2

/-! ### isinstance -/
def tyName : Ty → String
  | .n => "NoneType" | .b => "bool" | .i => "int" | .s => "str" | .l => "list" | .t => "tuple" | .d => "dict"
def kName : Bi → String
  | .isInt => "int" | .isBool => "bool" | .isList => "list" | .isTuple => "tuple" | .isStr => "str" | .isDict => "dict" | _ => ""
theorem kit_all : ∀ (t : Ty) (b : Bi), b ≠ .isLT → ∀ r, kindB b t = some r → kitB (tyName t) (kName b) = some r := by
  intro t b hb r h
  cases b <;> first | exact (hb rfl).elim | cases h
  all_goals (cases t <;> decide +kernel)
theorem Dq.tyX {K : PySem.W.Frag} {H : Hp} {v : V} {d : PyData} {t : Ty} (h : Dq K H v d) (e : tyD d = some t) : TyX K H v (.type (tyName t)) := by
  cases h with
  | non => cases e; exact .base .non
  | bl b => cases e; exact .base (.bl b)
  | int b => cases e; exact .base (.int b)
  | str b => cases e; exact .base (.str b)
  | lst h _ => cases e; exact .base (.lst h)
  | tup h _ => cases e; exact .base (.tup h)
  | edict h => cases e; exact .base (.dK h)
  | scr _ _ => simp [scrD, tyD] at e
def rIsk (K : PySem.W.Frag) (b : Bi) : List V → Hp → VK → Prop := fun vs H Q => ∃ x d t r, vs = [x, .ty (kName b)] ∧ Dq K H x d ∧ tyD d = some t ∧ kindB b t = some r ∧ Q (.bl r) H
def rIsLT (K : PySem.W.Frag) : List V → Hp → VK → Prop := fun vs H Q => ∃ x tp d t r, vs = [x, .ref tp] ∧ H tp = some (.tup [.ty "list", .ty "tuple"]) ∧ Dq K H x d ∧ tyD d = some t ∧ kindB .isLT t = some r ∧ Q (.bl r) H
section
variable {X : Cx}
theorem cb_isk {b : Bi} (hb : b ≠ .isLT) : CallR X (.builtin "isinstance") (rIsk X.K b) := by
  intro pins s σ H xs us Q I r ⟨x, d, t, k, e, D, et, ek, q⟩
  exact call_isi pins s σ H xs us Q I r ⟨x, _, _, _, k, e, .ty _, D.tyX et, kit_ty (kit_all t b hb k ek), q⟩
theorem cb_isLT : CallR X (.builtin "isinstance") (rIsLT X.K) := by
  intro pins s σ H xs us Q I r ⟨x, tp, d, t, k, e, ht, D, et, ek, q⟩
  refine call_isiT pins s σ H xs us Q I r ⟨x, tp, _, _, [.type "list", .type "tuple"], k, e, ht, .cons (.ty _) (.cons (.ty _) .nil), D.tyX et, ?_, q⟩
  have k1 : kindB .isList t = some (t == .l) := rfl
  have k2 : kindB .isTuple t = some (t == .t) := rfl
  have ek' : (t == .l || t == .t) = k := Option.some.inj ek
  refine kitAny_cons (kit_ty (kit_all t .isList (by simp) _ k1)) (fun h1 => ?_) (fun h1 => ?_)
  · refine kitAny_cons (kit_ty (kit_all t .isTuple (by simp) _ k2)) (fun h2 => ?_) (fun h2 => ?_)
    · rw [← ek', h1, h2]; exact kitAny_nil
    · rw [← ek', h2, Bool.or_true]
  · rw [← ek', h1, Bool.true_or]

/-! ### len(set(xs)) -/
def tLenSet (K : PySem.W.Frag) (ta : TE) : TE := fun σ H Q => ta σ H fun x H1 => ∃ (l : Addr) (ns : List Int), x = .ref l ∧ SqL K H1 l (ns.map V.int) ∧ ns.length ≤ 4000 ∧ Q (.int (metD ns)) H1
theorem pe_lenSet {a : Expr} {ta : TE} {p p2 q pos : Pos} (hg : Gl X "len") (hm : X.mg "len" = none) (hg2 : Gl X "set") (hm2 : X.mg "set" = none) (ha : PE X a ta) (hc : X.calm = true)
    (na : starEach [a] X.env = (false, eval a X.env) :: starEach [] X.env) : PE X (.Call (.Name "len" p) [.Call (.Name "set" p2) [a] [] q] [] pos) (tLenSet X.K ta) := by
  constructor
  intro pins s σ H Q I h
  refine Call_ (ld_blt I hg hm PySem.boot_len (callWith_builtin1 (args_cons ?_ rfl) rfl rfl))
  refine Call_ (ld_blt I hg2 hm2 PyProof.Rows.boot_set (callWith_type1 (args_cons ?_ na) na rfl))
  refine thn (ha.run pins s σ H _ I h) fun v s1 ⟨x, H1, I1, r1, l, ns, e1, hq, hl, q1⟩ => args_nil ?_
  subst e1
  cases r1
  obtain ⟨its, r, pl, hz⟩ := I1.list hq
  have hlen : its.toArray.size = ns.length := by rw [List.size_toArray, ← r.length, List.length_map]
  refine call_set_list (I1.ok.hd hc) pl.isList (ns := ns) (by simpa using r.ints) (by rw [hlen]; unfold scanBound; omega) fun h' tk hS hk => args_nil ?_
  rw [hlen] at hS
  have hle := firstMet_length_le (fun i => ns.getD i 0) ns.length
  obtain ⟨o, es, ep, t, ho, hex, hd, _, _, _, hf, hn⟩ := hS
  have I2 : L2.Inv X pins σ H1 { s1 with heap := h', toks := tk } := I1.kept fun b o e => hk b o (Heap.lt_size e) e
  exact call_len_set ho hex hd hf (by rw [hn]; omega) ⟨.int (metD ns), H1, I2.tok _, ⟨_, by rw [hn]; rfl⟩, q1⟩

/-! ### subscripts -/
def rIxD (K : PySem.W.Frag) : R2 := fun x y H Q => ∃ z d i r, StC K z H ∧ Pk K z H x d ∧ y = .int i ∧ idxD d (.int i) = some r ∧ ∀ v, Dq K (z.mask H) v r → Q v H
theorem ix_inv {n : Nat} {i : Int} {ds : List PyData} {r : PyData} (hn : ds.length = n) (h : ((ixD n i).bind fun j => ds[j]?) = some r) : ∃ j, ixN n i = some j ∧ ds[j]? = some r := by
  obtain ⟨j, h1, h2⟩ := Option.bind_eq_some_iff.mp h
  exact ⟨j, h1, h2⟩
theorem ix_D : IxR X (rIxD X.K) := by
  intro value slice pins s σ H x y v u Q I rx ry ⟨z, d, i, r, C, hx, hy, e, q⟩ hs
  unfold idxD at e
  split at e
  · next ds j ej =>
    cases ej
    obtain ⟨a, ys, rfl, h1, h2⟩ := hx.list
    obtain ⟨k, k1, k2⟩ := ix_inv rfl e
    obtain ⟨w, w1, w2⟩ := h2.get k2
    exact ix_seq value slice pins s σ H _ y v u Q I rx ry (.inl ⟨a, ys, i, w, rfl, hy, SqL.of h1, by unfold atI; rw [h2.len, k1]; exact w1, q w w2⟩) hs
  · next ds j ej =>
    cases ej
    obtain ⟨a, ys, rfl, h1, h2⟩ := hx.tup
    obtain ⟨k, k1, k2⟩ := ix_inv rfl e
    obtain ⟨w, w1, w2⟩ := h2.get k2
    exact ix_seq value slice pins s σ H _ y v u Q I rx ry (.inr (.inl ⟨a, ys, i, w, rfl, hy, SqT.of h1, by unfold atI; rw [h2.len, k1]; exact w1, q w w2⟩)) hs
  · next ds j ej =>
    cases ej
    obtain ⟨a, ns, rfl, rfl, h1, _⟩ := hx.scr
    obtain ⟨k, k1, k2⟩ := ix_inv rfl e
    obtain ⟨w, w1, w2⟩ := (DqAll.ofInts (K := X.K) (H := z.mask H) ns).get k2
    exact ix_seq value slice pins s σ H _ y v u Q I rx ry (.inl ⟨a, _, i, w, rfl, hy, h1, by unfold atI; rw [List.length_map] at k1 ⊢; rw [k1]; exact w1, q w w2⟩) hs
  · cases e

/-! ### slices -/
theorem cut_all {K : PySem.W.Frag} {H : Hp} {xs : List V} {ds : List PyData} (h : DqAll K H xs ds) (lo hi : Option Int) : DqAll K H (cutV xs lo hi) (cutD ds lo hi) := by
  unfold cutV cutD
  rw [h.len]
  exact (h.drop _).take _
def rSlD (K : PySem.W.Frag) : V → Option Int → Option Int → Hp → VK → Prop := fun x lo hi H Q => ∃ z d r, StC K z H ∧ Pk K z H x d ∧ slD d (lo.map PyData.int) (hi.map PyData.int) = some r ∧ Res K z H r Q
theorem bound_map : ∀ o : Option Int, boundD (o.map PyData.int) = some o
  | none => rfl
  | some _ => rfl
theorem sl_D : SlR X (rSlD X.K) := by
  intro pins s σ H x v vl vu lo hi sl Q I rx hs pl pu ⟨z, d, r, C, hx, e, q⟩
  unfold slD at e
  rw [bound_map, bound_map] at e
  split at e
  · next ds l h e1 e2 =>
    cases e1; cases e2
    cases e
    obtain ⟨a, ys, rfl, h1, h2⟩ := hx.list
    exact sl_list pins s σ H _ v vl vu lo hi sl Q I rx hs pl pu ⟨a, ys, rfl, SqL.of h1, fun p hp => q.lst C (cut_all h2 lo hi) p hp⟩
  · next ds l h e1 e2 =>
    cases e1; cases e2
    split at e
    · cases e
    · next hn =>
      cases e
      obtain ⟨a, ys, rfl, h1, h2⟩ := hx.tup
      rw [← h2.len] at hn
      exact sl_tup pins s σ H _ v vl vu lo hi sl Q I rx hs pl pu ⟨a, ys, rfl, SqT.of h1, hn, fun p hp => q.tup C (cut_all h2 lo hi) p hp⟩
  · next ds l h e1 e2 =>
    cases e1; cases e2
    cases e
    obtain ⟨a, ns, rfl, rfl, h1, _⟩ := hx.scr
    exact sl_list pins s σ H _ v vl vu lo hi sl Q I rx hs pl pu ⟨a, _, rfl, h1, fun p hp => q.lst C (cut_all (DqAll.ofInts ns) lo hi) p hp⟩
  · cases e
end
end TW
end
section
set_option Elab.async false
set_option linter.all false
set_option maxRecDepth 100000
set_option maxHeartbeats 1000000
/-! TwState: the store of changing lists, step by step. -/
namespace TW
open PySem PySem.Spec PyProof.Rows L2

section
variable {K : PySem.W.Frag} {z : Zs} {H : Hp}

theorem mu_inj (C : StC K z H) {i j : Nat} {a : Addr} (h1 : z.μ[i]? = some a) (h2 : z.μ[j]? = some a) : i = j := by
  obtain ⟨hi, e1⟩ := List.getElem?_eq_some_iff.mp h1
  obtain ⟨hj, e2⟩ := List.getElem?_eq_some_iff.mp h2
  have e := e1.trans e2.symm
  by_cases lt : i < j
  · exact absurd e (List.pairwise_iff_getElem.mp C.nd i j hi hj lt)
  · by_cases lt2 : j < i
    · exact absurd e.symm (List.pairwise_iff_getElem.mp C.nd j i hj hi lt2)
    · omega
theorem StC.addr (C : StC K z H) {i : Nat} {c : Cell} (h : z.S[i]? = some c) : ∃ a, z.μ[i]? = some a := by
  have hi : i < z.μ.length := by rw [C.len]; exact (List.getElem?_eq_some_iff.mp h).1
  exact ⟨_, List.getElem?_eq_getElem hi⟩

/-- a cell's content and state changed, the heap at its place likewise -/
theorem StC.put (C : StC K z H) {i : Nat} {a : Addr} {c c' : Cell} {ys : List V} {es : List PyData} (hc : z.S[i]? = some c) (hn : c.1 = 0) (ha : z.μ[i]? = some a) (hn' : c'.1 ≠ 2) (hl : c'.1 = 1 → False) (hd : c'.2 = .list es) (r : DqAll K (z.mask H) ys es) :
    StC K { z with S := z.S.set i c' } (upd H a (.lst ys)) ∧ Sf z H { z with S := z.S.set i c' } (upd H a (.lst ys)) := by
  have hi : i < z.S.length := (List.getElem?_eq_some_iff.mp hc).1
  have busyA : z.busy a := .inr ⟨i, c, ha, hc, by rw [hn]; decide⟩
  have hb : ∀ b, ({ z with S := z.S.set i c' } : Zs).busy b ↔ z.busy b := fun b => by
    unfold Zs.busy
    refine or_congr Iff.rfl ⟨fun ⟨j, d, h1, h2, h3⟩ => ?_, fun ⟨j, d, h1, h2, h3⟩ => ?_⟩
    · by_cases e : i = j
      · subst e; exact ⟨i, c, h1, hc, by rw [hn]; decide⟩
      · exact ⟨j, d, h1, by rwa [List.getElem?_set_ne e] at h2, h3⟩
    · by_cases e : i = j
      · subst e; exact ⟨i, c', h1, by rw [List.getElem?_set_self hi], hn'⟩
      · exact ⟨j, d, h1, by rw [List.getElem?_set_ne e]; exact h2, h3⟩
  have hm : ({ z with S := z.S.set i c' } : Zs).mask (upd H a (.lst ys)) = z.mask H := by
    funext b
    unfold Zs.mask
    by_cases e : z.busy b
    · rw [if_pos ((hb b).mpr e), if_pos e]
    · rw [if_neg (fun q => e ((hb b).mp q)), if_neg e, upd_ne (fun (q : b = a) => e (q ▸ busyA))]
  have hg : ∀ g ∈ z.G, g ≠ a := fun g h e => (C.gm g h).1 (e ▸ List.mem_of_getElem? ha)
  refine ⟨⟨by simpa using C.len, C.nd, fun g hgm => ⟨(C.gm g hgm).1, by rw [upd_ne (hg g hgm)]; exact (C.gm g hgm).2⟩, fun j b d h1 h2 => ?_⟩, ⟨rfl, ⟨[], by simp⟩, by rw [hm]; exact Le.refl _, fun g hgm => upd_ne (hg g hgm), fun j d h1 => ?_⟩⟩
  · rw [hm]
    by_cases e : i = j
    · subst e
      rw [List.getElem?_set_self hi] at h2
      cases h2
      rw [ha] at h1; cases h1
      exact ⟨ys, es, hd, upd_same, r⟩
    · rw [List.getElem?_set_ne e] at h2
      obtain ⟨xs, ds, q1, q2, q3⟩ := C.cl j b d h1 h2
      exact ⟨xs, ds, q1, by rw [upd_ne (fun (q : b = a) => e (mu_inj C ha (q ▸ h1)))]; exact q2, q3⟩
  · by_cases e : i = j
    · subst e; rw [hc] at h1; cases h1; cases hn
    · show (z.S.set i c')[j]? = _
      rw [List.getElem?_set_ne e]; exact h1
/-- locked or unlocked -/
theorem StC.turn (C : StC K z H) {i : Nat} {m n : Nat} {d : PyData} (hc : z.S[i]? = some (m, d)) (hm : m ≠ 2) (hn : n ≠ 2) :
    StC K { z with S := z.S.set i (n, d) } H ∧ Le (z.mask H) (({ z with S := z.S.set i (n, d) } : Zs).mask H) ∧ ∀ (j : Nat) c, j ≠ i → z.S[j]? = some c → (z.S.set i (n, d))[j]? = some c := by
  have hi : i < z.S.length := (List.getElem?_eq_some_iff.mp hc).1
  have hb : ∀ b, ({ z with S := z.S.set i (n, d) } : Zs).busy b ↔ z.busy b := fun b => by
    unfold Zs.busy
    refine or_congr Iff.rfl ⟨fun ⟨j, d', h1, h2, h3⟩ => ?_, fun ⟨j, d', h1, h2, h3⟩ => ?_⟩
    · by_cases e : i = j
      · subst e; exact ⟨i, _, h1, hc, hm⟩
      · exact ⟨j, d', h1, by rwa [List.getElem?_set_ne e] at h2, h3⟩
    · by_cases e : i = j
      · subst e; exact ⟨i, (n, d), h1, by rw [List.getElem?_set_self hi], hn⟩
      · exact ⟨j, d', h1, by rw [List.getElem?_set_ne e]; exact h2, h3⟩
  have hm' : ({ z with S := z.S.set i (n, d) } : Zs).mask H = z.mask H := by
    funext b
    unfold Zs.mask
    by_cases e : z.busy b
    · rw [if_pos ((hb b).mpr e), if_pos e]
    · rw [if_neg (fun q => e ((hb b).mp q)), if_neg e]
  refine ⟨⟨by simpa using C.len, C.nd, C.gm, fun j b c h1 h2 => ?_⟩, by rw [hm']; exact Le.refl _, fun j c hj h => by rw [List.getElem?_set_ne (fun e => hj e.symm)]; exact h⟩
  rw [hm']
  by_cases e : i = j
  · subst e
    rw [List.getElem?_set_self hi] at h2
    cases h2
    exact C.cl i b (m, d) h1 hc
  · rw [List.getElem?_set_ne e] at h2
    exact C.cl j b c h1 h2
/-- a changing list never changes any more -/
theorem StC.freeze (C : StC K z H) {i : Nat} {d : PyData} (hc : z.S[i]? = some (0, d)) :
    StC K { z with S := z.S.set i (2, d) } H ∧ Sf z H { z with S := z.S.set i (2, d) } H ∧ ∀ a, z.μ[i]? = some a → Dq K (({ z with S := z.S.set i (2, d) } : Zs).mask H) (.ref a) d := by
  have hi : i < z.S.length := (List.getElem?_eq_some_iff.mp hc).1
  have hb : ∀ b, ({ z with S := z.S.set i (2, d) } : Zs).busy b → z.busy b := fun b h => by
    rcases h with h | ⟨j, d', h1, h2, h3⟩
    · exact .inl h
    · by_cases e : i = j
      · subst e
        rw [List.getElem?_set_self hi] at h2
        cases h2; exact (h3 rfl).elim
      · exact .inr ⟨j, d', h1, by rwa [List.getElem?_set_ne e] at h2, h3⟩
  have hl : Le (z.mask H) (({ z with S := z.S.set i (2, d) } : Zs).mask H) := fun b o e => by
    obtain ⟨e1, e2⟩ := Zs.mask_some.mp e
    exact Zs.mask_some.mpr ⟨fun q => e1 (hb b q), e2⟩
  refine ⟨⟨by simpa using C.len, C.nd, C.gm, fun j b c h1 h2 => ?_⟩, ⟨rfl, ⟨[], by simp⟩, hl, fun _ _ => rfl, fun j c h => ?_⟩, fun a ha => ?_⟩
  · by_cases e : i = j
    · subst e
      rw [List.getElem?_set_self hi] at h2
      cases h2
      obtain ⟨xs, ds, q1, q2, q3⟩ := C.cl i b (0, d) h1 hc
      exact ⟨xs, ds, q1, q2, q3.mono hl⟩
    · rw [List.getElem?_set_ne e] at h2
      obtain ⟨xs, ds, q1, q2, q3⟩ := C.cl j b c h1 h2
      exact ⟨xs, ds, q1, q2, q3.mono hl⟩
  · show (z.S.set i (2, d))[j]? = _
    by_cases e : i = j
    · subst e; rw [hc] at h; cases h
    · rw [List.getElem?_set_ne e]; exact h
  · obtain ⟨xs, ds, q1, q2, q3⟩ := C.cl i a (0, d) ha hc
    have q1' : d = .list ds := q1
    subst q1'
    refine .lst (Zs.mask_some.mpr ⟨fun q => ?_, q2⟩) (q3.mono hl)
    rcases q with q | ⟨j, c, h1, h2, h3⟩
    · exact (C.gm a q).1 (List.mem_of_getElem? ha)
    · obtain rfl := mu_inj C ha h1
      have h2' : (z.S.set i (2, .list ds))[i]? = some c := h2
      rw [List.getElem?_set_self hi] at h2'
      cases h2'; exact h3 rfl
theorem Zs.frozen_free (C : StC K z H) {i : Nat} {a : Addr} {d : PyData} (hc : z.S[i]? = some (2, d)) (ha : z.μ[i]? = some a) : Dq K (z.mask H) (.ref a) d := by
  obtain ⟨xs, ds, q1, q2, q3⟩ := C.cl i a _ ha hc
  have q1' : d = .list ds := q1
  subst q1'
  refine .lst (Zs.mask_some.mpr ⟨fun q => ?_, q2⟩) q3
  rcases q with q | ⟨j, c, h1, h2, h3⟩
  · exact (C.gm a q).1 (List.mem_of_getElem? ha)
  · obtain rfl := mu_inj C ha h1
    rw [hc] at h2; cases h2; exact h3 rfl

/-- settling a value -/
theorem settle_ok (C : StC K z H) {v : V} {d d' : PyData} {S' : Sto} (hv : Rv K z H v d) (e : settle z.S d = some (d', S')) :
    ∃ z', z'.S = S' ∧ z'.μ = z.μ ∧ z'.G = z.G ∧ StC K z' H ∧ Sf z H z' H ∧ Dq K (z'.mask H) v d' := by
  unfold settle at e
  rcases hv with hv | ⟨i, a, rfl, ha, rfl⟩
  · rw [hv.noCel] at e
    cases e
    exact ⟨z, rfl, rfl, rfl, C, Sf.refl z H, hv⟩
  · rw [celOf_cel] at e
    simp only at e
    split at e
    · next c hc =>
      cases e
      obtain ⟨c1, c2, c3⟩ := C.freeze hc
      exact ⟨{ z with S := z.S.set i (2, d') }, rfl, rfl, rfl, c1, c2, c3 a ha⟩
    · next c hc =>
      cases e
      exact ⟨z, rfl, rfl, rfl, C, Sf.refl z H, Zs.frozen_free C hc ha⟩
    · cases e
theorem settleAll_ok : ∀ {ds ds' : List PyData} {vs : List V} {z : Zs} {S' : Sto}, StC K z H → RvL K z H vs ds → settleAll z.S ds = some (ds', S') →
    ∃ z', z'.S = S' ∧ z'.μ = z.μ ∧ z'.G = z.G ∧ StC K z' H ∧ Sf z H z' H ∧ DqAll K (z'.mask H) vs ds'
  | [], _, _, z, _, C, .nil, e => by
    simp only [settleAll, Option.some.injEq, Prod.mk.injEq] at e
    obtain ⟨rfl, rfl⟩ := e
    exact ⟨z, rfl, rfl, rfl, C, Sf.refl z H, .nil⟩
  | d :: ds, _, _, z, _, C, .cons a b, e => by
    simp only [settleAll] at e
    obtain ⟨r, e1, e⟩ := Option.bind_eq_some_iff.mp e
    obtain ⟨q, e2, e⟩ := Option.bind_eq_some_iff.mp e
    cases e
    obtain ⟨z1, s1, m1, g1, C1, F1, D1⟩ := settle_ok C a (show settle z.S d = some (r.1, r.2) from e1)
    obtain ⟨z2, s2, m2, g2, C2, F2, D2⟩ := settleAll_ok C1 (RvL.mono F1 b) (show settleAll z1.S ds = some (q.1, q.2) by rw [s1]; exact e2)
    exact ⟨z2, s2, m2.trans m1, g2.trans g1, C2, F1.trans F2, .cons (D1.mono F2.le) D2⟩
theorem settleBy_ok : ∀ {rs : List Bool} {ds ds' : List PyData} {vs : List V} {z : Zs} {S' : Sto}, StC K z H → RvL K z H vs ds → settleBy rs z.S ds = some (ds', S') →
    ∃ z', z'.S = S' ∧ z'.μ = z.μ ∧ z'.G = z.G ∧ StC K z' H ∧ Sf z H z' H ∧ RvL K z' H vs ds'
  | _, [], _, _, z, _, C, .nil, e => by
    simp only [settleBy, Option.some.injEq, Prod.mk.injEq] at e
    obtain ⟨rfl, rfl⟩ := e
    exact ⟨z, rfl, rfl, rfl, C, Sf.refl z H, .nil⟩
  | true :: rs, d :: ds, _, _, z, _, C, .cons a b, e => by
    simp only [settleBy] at e
    obtain ⟨q, e2, e⟩ := Option.bind_eq_some_iff.mp e
    cases e
    obtain ⟨z2, s2, m2, g2, C2, F2, D2⟩ := settleBy_ok C b (show settleBy rs z.S ds = some (q.1, q.2) from e2)
    exact ⟨z2, s2, m2, g2, C2, F2, .cons (a.mono F2) D2⟩
  | false :: rs, d :: ds, _, _, z, _, C, .cons a b, e => by
    simp only [settleBy] at e
    obtain ⟨r, e1, e⟩ := Option.bind_eq_some_iff.mp e
    obtain ⟨q, e2, e⟩ := Option.bind_eq_some_iff.mp e
    cases e
    obtain ⟨z1, s1, m1, g1, C1, F1, D1⟩ := settle_ok C a (show settle z.S d = some (r.1, r.2) from e1)
    obtain ⟨z2, s2, m2, g2, C2, F2, D2⟩ := settleBy_ok C1 (RvL.mono F1 b) (show settleBy rs z1.S ds = some (q.1, q.2) by rw [s1]; exact e2)
    exact ⟨z2, s2, m2.trans m1, g2.trans g1, C2, F1.trans F2, .cons (.inl (D1.mono F2.le)) D2⟩
  | [], d :: ds, _, _, z, _, C, .cons a b, e => by
    simp only [settleBy] at e
    obtain ⟨r, e1, e⟩ := Option.bind_eq_some_iff.mp e
    obtain ⟨q, e2, e⟩ := Option.bind_eq_some_iff.mp e
    cases e
    obtain ⟨z1, s1, m1, g1, C1, F1, D1⟩ := settle_ok C a (show settle z.S d = some (r.1, r.2) from e1)
    obtain ⟨z2, s2, m2, g2, C2, F2, D2⟩ := settleBy_ok C1 (RvL.mono F1 b) (show settleBy [] z1.S ds = some (q.1, q.2) by rw [s1]; exact e2)
    exact ⟨z2, s2, m2.trans m1, g2.trans g1, C2, F1.trans F2, .cons (.inl (D1.mono F2.le)) D2⟩
/-- a new list becomes a changing one -/
theorem thaw_ok {z0 : Zs} {H0 : Hp} {v : V} {ds : List PyData} (C : StC K z H) (F : Sf z0 H0 z H) (f : Fr K z0 H0 z H v (.list ds)) :
    ∃ a z', v = .ref a ∧ z'.S = z.S ++ [(0, .list ds)] ∧ z'.μ = z.μ ++ [a] ∧ StC K z' H ∧ Sf z0 H0 z' H ∧ Rv K z' H v (cel z.S.length) := by
  obtain ⟨a, xs, rfl, ha, hG, hmu, C1, D1, L1⟩ := f ds rfl
  have hz : z.μ.length = z.S.length := C.len
  have hb : ∀ b, (⟨z.G, z.μ ++ [a], z.S ++ [(0, .list ds)]⟩ : Zs).busy b ↔ (⟨a :: z.G, z.μ, z.S⟩ : Zs).busy b := fun b => by
    unfold Zs.busy
    simp only [List.mem_cons]
    constructor
    · rintro (h | ⟨i, c, h1, h2, h3⟩)
      · exact .inl (.inr h)
      · by_cases hi : i < z.μ.length
        · rw [List.getElem?_append_left hi] at h1
          rw [List.getElem?_append_left (by omega)] at h2
          exact .inr ⟨i, c, h1, h2, h3⟩
        · have hi2 := (List.getElem?_eq_some_iff.mp h1).1
          rw [List.length_append, List.length_singleton] at hi2
          have e : i = z.μ.length := by omega
          subst e
          rw [List.getElem?_append_right (Nat.le_refl _), Nat.sub_self] at h1
          cases h1
          exact .inl (.inl rfl)
    · rintro ((rfl | h) | ⟨i, c, h1, h2, h3⟩)
      · refine .inr ⟨z.μ.length, (0, .list ds), ?_, ?_, (by decide : (0 : Nat) ≠ 2)⟩
        · rw [List.getElem?_append_right (Nat.le_refl _), Nat.sub_self]; rfl
        · rw [hz, List.getElem?_append_right (Nat.le_refl _), Nat.sub_self]; rfl
      · exact .inl h
      · have hi := (List.getElem?_eq_some_iff.mp h1).1
        exact .inr ⟨i, c, by rw [List.getElem?_append_left hi]; exact h1, by rw [List.getElem?_append_left (by omega)]; exact h2, h3⟩
  have hm : (⟨z.G, z.μ ++ [a], z.S ++ [(0, .list ds)]⟩ : Zs).mask H = (⟨a :: z.G, z.μ, z.S⟩ : Zs).mask H := by
    funext b
    unfold Zs.mask
    by_cases e : (⟨a :: z.G, z.μ, z.S⟩ : Zs).busy b
    · rw [if_pos ((hb b).mpr e), if_pos e]
    · rw [if_neg (fun q => e ((hb b).mp q)), if_neg e]
  refine ⟨a, ⟨z.G, z.μ ++ [a], z.S ++ [(0, .list ds)]⟩, rfl, rfl, rfl, ⟨by simp [hz], ?_, fun g hg => ⟨?_, (C.gm g hg).2⟩, fun i b c h1 h2 => ?_⟩, ⟨F.g, ?_, by rw [hm]; exact L1, F.gh, fun i c h => ?_⟩, .inr ⟨_, a, rfl, ?_, rfl⟩⟩
  · rw [List.nodup_append]
    refine ⟨C.nd, by simp, fun x hx y hy => ?_⟩
    rw [List.mem_singleton] at hy
    subst hy
    exact fun e => hmu (e ▸ hx)
  · simp only [List.mem_append, List.mem_singleton, not_or]
    exact ⟨(C.gm g hg).1, fun e => hG (e ▸ hg)⟩
  · rw [hm]
    by_cases hi : i < z.μ.length
    · have h1' : z.μ[i]? = some b := by rwa [show (⟨z.G, z.μ ++ [a], z.S ++ [(0, .list ds)]⟩ : Zs).μ[i]? = z.μ[i]? from List.getElem?_append_left hi] at h1
      have h2' : z.S[i]? = some c := by rwa [show (⟨z.G, z.μ ++ [a], z.S ++ [(0, .list ds)]⟩ : Zs).S[i]? = z.S[i]? from List.getElem?_append_left (by omega)] at h2
      exact C1.cl i b c h1' h2'
    · have hi2 : i < (z.μ ++ [a]).length := (List.getElem?_eq_some_iff.mp h1).1
      rw [List.length_append, List.length_singleton] at hi2
      have e : i = z.μ.length := by omega
      subst e
      have h1' : (z.μ ++ [a])[z.μ.length]? = some b := h1
      have h2' : (z.S ++ [(0, .list ds)])[z.μ.length]? = some c := h2
      rw [List.getElem?_append_right (Nat.le_refl _), Nat.sub_self] at h1'
      rw [hz, List.getElem?_append_right (Nat.le_refl _), Nat.sub_self] at h2'
      cases h1'; cases h2'
      exact ⟨xs, ds, rfl, ha, D1⟩
  · obtain ⟨ν, e⟩ := F.ex
    exact ⟨ν ++ [a], by show z.μ ++ [a] = _; rw [e, List.append_assoc]⟩
  · have := F.lk i c h
    show (z.S ++ _)[i]? = _
    rw [List.getElem?_append_left (List.getElem?_eq_some_iff.mp this).1]
    exact this
  · show (z.μ ++ [a])[z.S.length]? = some a
    rw [← hz, List.getElem?_append_right (Nat.le_refl _), Nat.sub_self]; rfl
theorem Fr.before {z1 z2 z3 : Zs} {H1 H2 H3 : Hp} {v : V} {d : PyData} (s : Sf z1 H1 z2 H2) (f : Fr K z2 H2 z3 H3 v d) : Fr K z1 H1 z3 H3 v d := fun ds e => by
  obtain ⟨a, xs, h1, h2, h3, h4, h5, h6, h7⟩ := f ds e
  exact ⟨a, xs, h1, h2, h3, h4, h5, h6, s.le.trans h7⟩
end
end TW
end
section
set_option Elab.async false
set_option linter.all false
set_option maxRecDepth 100000
/-! TwCall: a call works on a store of its own. -/
namespace TW
open PySem PySem.Spec PyProof.Rows L2

structure Part (z : Zs) (is : List Nat) (ν : List Addr) (L : Sto) : Prop where
  nd : is.Nodup
  ln : ν.length = is.length
  ll : L.length = is.length
  ix : ∀ (j i : Nat), is[j]? = some i → ∃ a c, z.μ[i]? = some a ∧ z.S[i]? = some c ∧ ν[j]? = some a ∧ L[j]? = some c
theorem part_of {K : PySem.W.Frag} {z : Zs} {H : Hp} (C : StC K z H) : ∀ {is : List Nat} {L : Sto}, is.Nodup → getAll z.S is = some L → ∃ ν, Part z is ν L
  | [], L, _, e => by
    cases e
    exact ⟨[], .nil, rfl, rfl, fun j i h => by simp at h⟩
  | i :: is, L, nd, e => by
    simp only [getAll] at e
    obtain ⟨c, e1, e⟩ := Option.bind_eq_some_iff.mp e
    obtain ⟨r, e2, e⟩ := Option.map_eq_some_iff.mp e
    subst e
    obtain ⟨ν, P⟩ := part_of C (List.nodup_cons.mp nd).2 e2
    obtain ⟨a, ha⟩ := C.addr e1
    refine ⟨a :: ν, nd, by simp [P.ln], by simp [P.ll], fun j k h => ?_⟩
    cases j with
    | zero => simp at h; subst h; exact ⟨a, c, ha, e1, rfl, rfl⟩
    | succ j => simpa using P.ix j k (by simpa using h)
/-- what is hidden from the call -/
def hidA (z : Zs) (is : List Nat) : List Addr := (List.range z.μ.length).filterMap fun i => if i ∈ is then none else match z.S[i]? with
  | some c => if c.1 = 2 then none else z.μ[i]?
  | none => none
theorem mem_hidA {z : Zs} {is : List Nat} {b : Addr} : b ∈ hidA z is ↔ ∃ (i : Nat) (c : Cell), i ∉ is ∧ z.μ[i]? = some b ∧ z.S[i]? = some c ∧ c.1 ≠ 2 := by
  unfold hidA
  rw [List.mem_filterMap]
  constructor
  · rintro ⟨i, _, e⟩
    split at e
    · cases e
    · next hi =>
      split at e
      · next c hc =>
        split at e
        · cases e
        · next h2 => exact ⟨i, c, hi, e, hc, h2⟩
      · cases e
  · rintro ⟨i, c, hi, h1, h2, h3⟩
    refine ⟨i, List.mem_range.mpr (List.getElem?_eq_some_iff.mp h1).1, ?_⟩
    rw [if_neg hi, h2]
    simp only [if_neg h3]
    exact h1
theorem putAll_len : ∀ {is : List Nat} {S L : Sto}, (putAll S is L).length = S.length
  | [], S, L => by unfold putAll; rfl
  | i :: is, S, [] => by unfold putAll; rfl
  | i :: is, S, c :: cs => by
    show (putAll (S.set i c) is cs).length = S.length
    rw [putAll_len, List.length_set]
theorem putAll_out : ∀ {is : List Nat} {S L : Sto} {k : Nat}, k ∉ is → (putAll S is L)[k]? = S[k]?
  | [], S, L, k, _ => by unfold putAll; rfl
  | i :: is, S, [], k, _ => by unfold putAll; rfl
  | i :: is, S, c :: cs, k, h => by
    show (putAll (S.set i c) is cs)[k]? = S[k]?
    rw [List.mem_cons, not_or] at h
    rw [putAll_out h.2, List.getElem?_set_ne (fun e => h.1 e.symm)]
theorem putAll_in : ∀ {is : List Nat} {S L : Sto} {j i : Nat}, is.Nodup → is[j]? = some i → i < S.length → j < L.length → (putAll S is L)[i]? = L[j]?
  | [], S, L, j, i, _, h, _, _ => by simp at h
  | k :: is, S, [], j, i, _, h, _, hj => by simp at hj
  | k :: is, S, c :: cs, 0, i, nd, h, hi, _ => by
    simp at h
    subst h
    show (putAll (S.set k c) is cs)[k]? = some c
    rw [putAll_out (List.nodup_cons.mp nd).1, List.getElem?_set_self hi]
  | k :: is, S, c :: cs, j + 1, i, nd, h, hi, hj => by
    show (putAll (S.set k c) is cs)[i]? = cs[j]?
    exact putAll_in (List.nodup_cons.mp nd).2 (by simpa using h) (by rw [List.length_set]; exact hi) (by simpa using hj)

section
variable {K : PySem.W.Frag} {z : Zs} {H H' : Hp} {is : List Nat} {ν : List Addr} {L L' : Sto}
theorem Part.busy (P : Part z is ν L) (b : Addr) : (⟨z.G ++ hidA z is, ν, L⟩ : Zs).busy b ↔ z.busy b := by
  unfold Zs.busy
  simp only [List.mem_append, mem_hidA]
  constructor
  · rintro ((h | ⟨i, c, _, h1, h2, h3⟩) | ⟨j, c, h1, h2, h3⟩)
    · exact .inl h
    · exact .inr ⟨i, c, h1, h2, h3⟩
    · have hj : j < is.length := by rw [← P.ln]; exact (List.getElem?_eq_some_iff.mp h1).1
      obtain ⟨a, c', q1, q2, q3, q4⟩ := P.ix j _ (List.getElem?_eq_getElem hj)
      rw [h1] at q3; cases q3
      rw [h2] at q4; cases q4
      exact .inr ⟨_, c, q1, q2, h3⟩
  · rintro (h | ⟨i, c, h1, h2, h3⟩)
    · exact .inl (.inl h)
    · by_cases hi : i ∈ is
      · obtain ⟨j, hj⟩ := List.getElem?_of_mem hi
        obtain ⟨a, c', q1, q2, q3, q4⟩ := P.ix j i hj
        rw [h1] at q1; cases q1
        rw [h2] at q2; cases q2
        exact .inr ⟨j, c, q3, q4, h3⟩
      · exact .inl (.inr ⟨i, c, hi, h1, h2, h3⟩)
theorem mask_congr {z z' : Zs} {H : Hp} (h : ∀ b, z.busy b ↔ z'.busy b) : z.mask H = z'.mask H := by
  funext b
  unfold Zs.mask
  by_cases e : z.busy b
  · rw [if_pos e, if_pos ((h b).mp e)]
  · rw [if_neg e, if_neg fun q => e ((h b).mpr q)]
theorem Part.mask (P : Part z is ν L) (H : Hp) : (⟨z.G ++ hidA z is, ν, L⟩ : Zs).mask H = z.mask H := mask_congr P.busy
theorem Part.stc (P : Part z is ν L) (C : StC K z H) : StC K ⟨z.G ++ hidA z is, ν, L⟩ H := by
  have at_ : ∀ {j : Nat} {a : Addr}, ν[j]? = some a → ∃ i c, is[j]? = some i ∧ z.μ[i]? = some a ∧ z.S[i]? = some c ∧ L[j]? = some c := fun {j a} h => by
    have hj : j < is.length := by rw [← P.ln]; exact (List.getElem?_eq_some_iff.mp h).1
    obtain ⟨a', c', q1, q2, q3, q4⟩ := P.ix j _ (List.getElem?_eq_getElem hj)
    rw [h] at q3; cases q3
    exact ⟨_, c', List.getElem?_eq_getElem hj, q1, q2, q4⟩
  have nodup : ν.Nodup := by
    unfold List.Nodup
    rw [List.pairwise_iff_getElem]
    intro i j hi' hj hij e
    obtain ⟨i1, c1, a1, b1, _, _⟩ := at_ (List.getElem?_eq_getElem hi')
    obtain ⟨j1, c2, a2, b2, _, _⟩ := at_ (List.getElem?_eq_getElem hj)
    rw [e] at b1
    have := mu_inj C b1 b2
    subst this
    obtain ⟨x1, y1⟩ := List.getElem?_eq_some_iff.mp a1
    obtain ⟨x2, y2⟩ := List.getElem?_eq_some_iff.mp a2
    exact List.pairwise_iff_getElem.mp P.nd i j x1 x2 hij (y1.trans y2.symm)
  refine ⟨by rw [P.ln, P.ll], nodup, fun g hg => ?_, fun j a c h1 h2 => ?_⟩
  · rcases List.mem_append.mp hg with hg | hg
    · refine ⟨fun hm => ?_, (C.gm g hg).2⟩
      obtain ⟨j, hj⟩ := List.getElem?_of_mem hm
      obtain ⟨i, c, _, b1, _, _⟩ := at_ hj
      exact (C.gm g hg).1 (List.mem_of_getElem? b1)
    · obtain ⟨i, c, h1, h2, h3, h4⟩ := mem_hidA.mp hg
      refine ⟨fun hm => ?_, ?_⟩
      · obtain ⟨j, hj⟩ := List.getElem?_of_mem hm
        obtain ⟨i2, c2, a1, b1, _, _⟩ := at_ hj
        have := mu_inj C h2 b1
        subst this
        exact h1 (List.mem_of_getElem? a1)
      · obtain ⟨xs, ds, _, q, _⟩ := C.cl i g c h2 h3
        rw [q]; simp
  · rw [P.mask]
    obtain ⟨i, c', _, b1, b2, b3⟩ := at_ h1
    have h2 : L[j]? = some c := h2
    rw [h2] at b3; cases b3
    exact C.cl i a c b1 b2
/-- the call's store put back, more hidden (A) or not -/
theorem Part.back (P : Part z is ν L) (C : StC K z H) {A : List Addr} (C' : StC K ⟨A ++ (z.G ++ hidA z is), ν, L'⟩ H') (hl : L'.length = L.length)
    (le : Le (z.mask H) ((⟨A ++ (z.G ++ hidA z is), ν, L'⟩ : Zs).mask H')) (gh : ∀ g ∈ z.G ++ hidA z is, H' g = H g) (hA : ∀ a ∈ A, a ∉ z.μ) :
    StC K ⟨A ++ z.G, z.μ, putAll z.S is L'⟩ H' ∧ (⟨A ++ z.G, z.μ, putAll z.S is L'⟩ : Zs).mask H' = (⟨A ++ (z.G ++ hidA z is), ν, L'⟩ : Zs).mask H' := by
  have ll : L'.length = is.length := by rw [hl, P.ll]
  have inn : ∀ {j i : Nat}, is[j]? = some i → (putAll z.S is L')[i]? = L'[j]? := fun {j i} h => by
    obtain ⟨a, c, q1, q2, _, _⟩ := P.ix j i h
    exact putAll_in P.nd h (List.getElem?_eq_some_iff.mp q2).1 (by rw [ll]; exact (List.getElem?_eq_some_iff.mp h).1)
  have hb : ∀ b, (⟨A ++ z.G, z.μ, putAll z.S is L'⟩ : Zs).busy b ↔ (⟨A ++ (z.G ++ hidA z is), ν, L'⟩ : Zs).busy b := fun b => by
    unfold Zs.busy
    simp only [List.mem_append, mem_hidA]
    constructor
    · rintro ((h | h) | ⟨i, c, h1, h2, h3⟩)
      · exact .inl (.inl h)
      · exact .inl (.inr (.inl h))
      · by_cases hi : i ∈ is
        · obtain ⟨j, hj⟩ := List.getElem?_of_mem hi
          obtain ⟨a, c', q1, q2, q3, q4⟩ := P.ix j i hj
          rw [h1] at q1; cases q1
          exact .inr ⟨j, c, q3, by rw [← inn hj]; exact h2, h3⟩
        · exact .inl (.inr (.inr ⟨i, c, hi, h1, by rw [← putAll_out hi]; exact h2, h3⟩))
    · rintro ((h | h | ⟨i, c, hi, h1, h2, h3⟩) | ⟨j, c, h1, h2, h3⟩)
      · exact .inl (.inl h)
      · exact .inl (.inr h)
      · exact .inr ⟨i, c, h1, by rw [putAll_out hi]; exact h2, h3⟩
      · have hj : j < is.length := by rw [← P.ln]; exact (List.getElem?_eq_some_iff.mp h1).1
        obtain ⟨a, c', q1, q2, q3, q4⟩ := P.ix j _ (List.getElem?_eq_getElem hj)
        rw [h1] at q3; cases q3
        exact .inr ⟨_, c, q1, by rw [inn (List.getElem?_eq_getElem hj)]; exact h2, h3⟩
  have hm := mask_congr (H := H') hb
  refine ⟨⟨by rw [putAll_len]; exact C.len, C.nd, fun g hg => ?_, fun i a c h1 h2 => ?_⟩, hm⟩
  · rcases List.mem_append.mp hg with hg | hg
    · exact ⟨hA g hg, (C'.gm g (List.mem_append_left _ hg)).2⟩
    · exact ⟨(C.gm g hg).1, (C'.gm g (List.mem_append_right _ (List.mem_append_left _ hg))).2⟩
  · rw [hm]
    by_cases hi : i ∈ is
    · obtain ⟨j, hj⟩ := List.getElem?_of_mem hi
      obtain ⟨a', c', q1, q2, q3, q4⟩ := P.ix j i hj
      have h1 : z.μ[i]? = some a := h1
      rw [h1] at q1; cases q1
      have h2 : (putAll z.S is L')[i]? = some c := h2
      rw [inn hj] at h2
      exact C'.cl j a c q3 h2
    · have h2 : (putAll z.S is L')[i]? = some c := h2
      rw [putAll_out hi] at h2
      obtain ⟨xs, ds, q1, q2, q3⟩ := C.cl i a c h1 h2
      refine ⟨xs, ds, q1, ?_, q3.mono le⟩
      by_cases hc : c.1 = 2
      · have hfree : z.mask H a = some (.lst xs) := by
          refine Zs.mask_some.mpr ⟨fun q => ?_, q2⟩
          rcases q with q | ⟨j, c2, w1, w2, w3⟩
          · exact (C.gm a q).1 (List.mem_of_getElem? h1)
          · obtain rfl := mu_inj C h1 w1
            rw [h2] at w2; cases w2
            exact w3 hc
        exact Zs.mask_le _ _ _ _ (le _ _ hfree)
      · rw [gh a (List.mem_append_right _ (mem_hidA.mpr ⟨i, c, hi, h1, h2, hc⟩))]
        exact q2
/-- the arguments, seen from the call -/
theorem cells_rv {K : PySem.W.Frag} {z : Zs} {H : Hp} {G2 : List Addr} {L : Sto} : ∀ {vs : List V} {ds : List PyData} {n : Nat} {ν : List Addr} (pre : List Addr), pre.length = n → RvL K z H vs ds →
    ((cellsOf ds n).2.map fun i => z.μ[i]?) = ν.map some → (⟨G2, pre ++ ν, L⟩ : Zs).mask H = z.mask H → RvL K ⟨G2, pre ++ ν, L⟩ H vs (cellsOf ds n).1
  | _, _, n, ν, pre, hp, .nil, e, hm => .nil
  | v :: vs, d :: ds, n, ν, pre, hp, .cons a b, e, hm => by
    unfold cellsOf at e ⊢
    rcases a with a | ⟨i, x, rfl, h2, rfl⟩
    · rw [a.noCel] at e ⊢
      exact .cons (.inl (by rw [hm]; exact a)) (cells_rv pre hp b e hm)
    · rw [celOf_cel] at e ⊢
      simp only [List.map_cons] at e
      cases ν with
      | nil => cases e
      | cons y ν =>
        rw [List.map_cons, List.cons.injEq] at e
        obtain ⟨e1, e2⟩ := e
        rw [h2] at e1
        cases e1
        refine .cons (.inr ⟨n, x, rfl, ?_, rfl⟩) ?_
        · show (pre ++ x :: ν)[n]? = some x
          rw [List.getElem?_append_right (by omega), hp, Nat.sub_self]; rfl
        · have := cells_rv (n := n + 1) (ν := ν) (pre ++ [x]) (by simp [hp]) b e2 (by rw [List.append_assoc]; exact hm)
          rw [List.append_assoc] at this
          exact this
theorem Part.args (P : Part z is ν L) {vs : List V} {ds : List PyData} (his : is = (cellsOf ds 0).2) (r : RvL K z H vs ds) : RvL K ⟨z.G ++ hidA z is, ν, L⟩ H vs (cellsOf ds 0).1 := by
  refine cells_rv (n := 0) (ν := ν) [] rfl r ?_ (P.mask H)
  rw [← his]
  apply List.ext_getElem?
  intro j
  rw [List.getElem?_map, List.getElem?_map]
  by_cases hj : j < is.length
  · obtain ⟨a, c, q1, q2, q3, q4⟩ := P.ix j _ (List.getElem?_eq_getElem hj)
    rw [List.getElem?_eq_getElem hj, q3]
    exact congrArg some q1
  · rw [List.getElem?_eq_none (by omega), List.getElem?_eq_none (by rw [P.ln]; omega)]
    rfl
theorem cells_len : ∀ (ds : List PyData) (n : Nat), (cellsOf ds n).1.length = ds.length
  | [], _ => rfl
  | d :: ds, n => by
    unfold cellsOf
    split <;> simp [cells_len ds]
/-- what a call needs: the promise at its own store -/
theorem call_own {ffr : Bool} {f : Nat} {F : Clf} {vs : List V} {ds : List PyData} {d : PyData} {S' : Sto} (C : StC K z H) (r : RvL K z H vs ds) (e : callD F f ds z.S = some (d, S')) :
    ∃ z0 ds0 S0, StC K z0 H ∧ RvL K z0 H vs ds0 ∧ F f ds0 z0.S = some (d, S0) ∧ ds0.length = ds.length ∧
      ∀ z' v H', z'.S = S0 → z'.μ = z0.μ → StC K z' H' → Sf z0 H z' H' → Dq K (z'.mask H') v d → (ffr = true → Fr K z0 H z' H' v d) →
        ∃ z2, z2.S = S' ∧ z2.μ = z.μ ∧ StC K z2 H' ∧ Sf z H z2 H' ∧ Dq K (z2.mask H') v d ∧ (ffr = true → Fr K z H z2 H' v d) := by
  unfold callD at e
  split at e
  · next nd =>
    obtain ⟨L, e1, e⟩ := Option.bind_eq_some_iff.mp e
    obtain ⟨q, e2, e⟩ := Option.bind_eq_some_iff.mp e
    split at e
    · next hl =>
      cases e
      obtain ⟨ν, P⟩ := part_of C nd e1
      refine ⟨⟨z.G ++ hidA z (cellsOf ds 0).2, ν, L⟩, _, q.2, P.stc C, P.args rfl r, e2, cells_len ds 0, fun z' v H' s1 m1 C1 F1 D1 f1 => ?_⟩
      obtain ⟨G', μ', T'⟩ := z'
      have hG : G' = z.G ++ hidA z (cellsOf ds 0).2 := F1.g
      have hμ : μ' = ν := m1
      have hS : T' = q.2 := s1
      subst hG hμ hS
      have le : Le (z.mask H) ((⟨z.G ++ hidA z (cellsOf ds 0).2, μ', q.2⟩ : Zs).mask H') := by
        rw [← P.mask H]; exact F1.le
      obtain ⟨b1, b2⟩ := P.back C (A := []) C1 hl le F1.gh (fun a h => by cases h)
      have b2 : (⟨z.G, z.μ, putAll z.S (cellsOf ds 0).2 q.2⟩ : Zs).mask H' = _ := b2
      refine ⟨⟨z.G, z.μ, putAll z.S (cellsOf ds 0).2 q.2⟩, rfl, rfl, b1, ⟨rfl, ⟨[], by simp⟩, by rw [b2]; exact le, fun g hg => F1.gh g (List.mem_append_left _ hg), fun i c h => ?_⟩, by rw [b2]; exact D1, fun hf ds' eds => ?_⟩
      · by_cases hi : i ∈ (cellsOf ds 0).2
        · obtain ⟨j, hj⟩ := List.getElem?_of_mem hi
          obtain ⟨a, c', q1, q2, q3, q4⟩ := P.ix j i hj
          rw [h] at q2; cases q2
          have := F1.lk j c q4
          have hj2 : j < q.2.length := (List.getElem?_eq_some_iff.mp this).1
          show (putAll z.S _ q.2)[i]? = _
          rw [putAll_in P.nd hj (List.getElem?_eq_some_iff.mp h).1 hj2]
          exact this
        · show (putAll z.S _ q.2)[i]? = _
          rw [putAll_out hi]; exact h
      · obtain ⟨a, xs, g1, g2, g3, g4, g5, g6, g7⟩ := f1 hf ds' eds
        have le2 : Le (z.mask H) ((⟨[a] ++ (z.G ++ hidA z (cellsOf ds 0).2), μ', q.2⟩ : Zs).mask H') := by
          rw [← P.mask H]; exact g7
        have na : a ∉ z.μ := fun hm => by
          obtain ⟨i, hi⟩ := List.getElem?_of_mem hm
          have hi2 : i < z.S.length := by rw [← C.len]; exact (List.getElem?_eq_some_iff.mp hi).1
          by_cases hin : i ∈ (cellsOf ds 0).2
          · obtain ⟨j, hj⟩ := List.getElem?_of_mem hin
            obtain ⟨a', c', q1, q2, q3, q4⟩ := P.ix j i hj
            rw [hi] at q1; cases q1
            exact g4 (List.mem_of_getElem? q3)
          · by_cases hc : (z.S[i]).1 = 2
            · obtain ⟨ys, es, w1, w2, w3⟩ := C.cl i a _ hi (List.getElem?_eq_getElem hi2)
              have hfree : z.mask H a = some (.lst ys) := by
                refine Zs.mask_some.mpr ⟨fun w => ?_, w2⟩
                rcases w with w | ⟨j, c2, v1, v2, v3⟩
                · exact (C.gm a w).1 (List.mem_of_getElem? hi)
                · obtain rfl := mu_inj C hi v1
                  rw [List.getElem?_eq_getElem hi2] at v2
                  cases v2
                  exact v3 hc
              have := (Zs.mask_some.mp (le2 _ _ hfree)).1
              exact this (.inl (List.mem_append_left _ (List.mem_singleton.mpr rfl)))
            · exact g3 (List.mem_append_right _ (mem_hidA.mpr ⟨i, _, hin, hi, List.getElem?_eq_getElem hi2, hc⟩))
        obtain ⟨c1, c2⟩ := P.back C (A := [a]) g5 hl le2 F1.gh (fun x hx => by rw [List.mem_singleton] at hx; subst hx; exact na)
        refine ⟨a, xs, g1, g2, fun hg => g3 (List.mem_append_left _ hg), na, c1, ?_, ?_⟩
        · show DqAll K ((⟨[a] ++ z.G, z.μ, putAll z.S _ q.2⟩ : Zs).mask H') xs ds'
          rw [c2]; exact g6
        · show Le (z.mask H) ((⟨[a] ++ z.G, z.μ, putAll z.S _ q.2⟩ : Zs).mask H')
          rw [c2]; exact le2
    · cases e
  · cases e
end
end TW
end
section
set_option Elab.async false
set_option linter.all false
set_option maxRecDepth 100000
/-! TwChk: a term of T is what a piece of the program says. -/
namespace TW
open PySem PySem.Spec PyProof.Rows L2

/-- a def's names by slot, the program's defs by number -/
structure Ck where
  N : List Str
  nm : Nat → Option Str
  /-- calls by keywords alone: the def, the keywords as they stand, where each parameter's value stands among them -/
  kw : List (Nat × List Str × List Nat) := []
def visB (sc : Scope) (x : Str) : Bool := match sc.names.lookup x with
  | some .local | some .cell | some .free => true
  | _ => false
def locB (sc : Scope) (x : Str) : Bool := match sc.names.lookup x with
  | some .local | some .cell => true
  | _ => false
def glB (sc : Scope) (x : Str) : Bool := decide (sc.names.lookup x = some .globalImplicit)
def dbgB (x : Str) : Bool := !(x == ("__debug__" : Str)) && !(x == ("__classdict__" : Str))
def starB : Expr → Bool
  | .Starred .. => true
  | _ => false
def sliceB : Expr → Bool
  | .Slice .. => true
  | _ => false
def setB : Expr → Bool
  | .Set .. => true
  | _ => false
/-- a call without arguments (super()) -/
def bareB : Expr → Bool
  | .Call (.Name _ _) [] [] _ => true
  | _ => false
def biName : Bi → Str
  | .len | .lenSet => "len" | .int => "int" | .max2 => "max" | .min2 => "min" | .sum => "sum" | .list => "list" | .tuple => "tuple" | .all => "all" | .any => "any" | .repr => "repr" | .divmod => "divmod" | .sorted => "sorted"
  | _ => "isinstance"
def mtName : Mt → Str
  | .append => "append" | .pop | .popAt => "pop" | .index => "index" | .bitLength => "bit_length" | .count => "count"
/-- names that the module must not hold -/
def bltNames : List Str := ["len", "int", "max", "min", "sum", "list", "tuple", "all", "any", "repr", "divmod", "sorted", "isinstance", "set", "range", "bool", "str", "dict", "enumerate", "zip"]
def isName (sc : Scope) (n : Str) : Expr → Bool
  | .Name id _ => decide (id = n) && glB sc id
  | _ => false
def ownP (N : List Str) (own : List Nat) : List (Str × Nat) := own.filterMap fun k => (N[k]?).map fun x => (x, k)

mutual
/-- a target: a name, a tuple of targets; only : the slots that may be stored -/
def chkG (c : Ck) (sc : Scope) (st : Str → Bool) (only : Option (List Nat)) : T → Expr → Bool
  | .var k, x => match x with
    | .Name id _ => decide (c.N[k]? = some id) && locB sc id && st id && (match only with | none => true | some ks => ks.contains k)
    | _ => false
  | .tup ts, x => match x with
    | .Tuple xs _ _ => chkGs c sc st only ts xs
    | _ => false
  | _, _ => false
def chkGs (c : Ck) (sc : Scope) (st : Str → Bool) (only : Option (List Nat)) : T → List Expr → Bool
  | .nil, xs => xs.isEmpty
  | .cons a b, xs => match xs with
    | x :: r => !starB x && chkG c sc st only a x && chkGs c sc st only b r
    | [] => false
  | _, _ => false
end
mutual
def chkE (c : Ck) (sc : Scope) : T → Expr → Bool
  | .var k, x => match x with
    | .Name id _ => decide (c.N[k]? = some id) && visB sc id && dbgB id
    | _ => false
  | .int i, x => match x with
    | .Constant (.int j) _ _ => decide (i = j)
    | _ => false
  | .str s, x => match x with
    | .Constant (.str j) _ _ => decide (s = j)
    | _ => false
  | .bl s, x => match x with
    | .Constant (.bool j) _ _ => decide (s = j)
    | _ => false
  | .non, x => match x with
    | .Constant .none _ _ => true
    | _ => false
  | .edict, x => match x with
    | .Dict [] [] _ => true
    | _ => false
  | .bin o a b, x => match x with
    | .BinOp l p r _ => decide (p = opOp o) && chkE c sc a l && chkE c sc b r
    | _ => false
  | .neg a, x => match x with
    | .UnaryOp .USub e _ => chkE c sc a e
    | _ => false
  | .cmp o a b, x => match x with
    | .Compare l [p] [r] _ => decide (p = cpOp o) && chkE c sc a l && chkE c sc b r && !behindInMarks p r
    | _ => false
  | .chain o1 o2 a b d, x => match x with
    | .Compare l [p, q] [m, r] _ => decide (p = cpOp o1) && decide (q = cpOp o2) && chkE c sc a l && chkE c sc b m && chkE c sc d r && !lastMarks [p, q] [m, r]
    | _ => false
  | .and a b, x => match x with
    | .BoolOp .And (x1 :: x2 :: r) pos => chkE c sc a x1 && (match r with
      | [] => chkE c sc b x2
      | _ => chkE c sc b (.BoolOp .And (x2 :: r) pos))
    | _ => false
  | .or a b, x => match x with
    | .BoolOp .Or (x1 :: x2 :: r) pos => chkE c sc a x1 && (match r with
      | [] => chkE c sc b x2
      | _ => chkE c sc b (.BoolOp .Or (x2 :: r) pos))
    | _ => false
  | .not a, x => match x with
    | .UnaryOp .Not e _ => chkE c sc a e
    | _ => false
  | .ite d a b, x => match x with
    | .IfExp e l r _ => chkE c sc d e && chkE c sc a l && chkE c sc b r
    | _ => false
  | .tup es, x => match x with
    | .Tuple xs _ _ => chkL c sc es xs
    | _ => false
  | .lst es, x => match x with
    | .List xs _ => chkL c sc es xs
    | _ => false
  | .call f _ es, x => match x with
    | .Call (.Name id _) xs [] _ => decide (c.nm f = some id) && glB sc id && dbgB id && chkL c sc es xs
    | _ => false
  | .callk f perm es, x => match x with
    | .Call (.Name id _) [] kws _ => decide (c.nm f = some id) && glB sc id && dbgB id && kws.all (fun k => k.arg.isSome) && c.kw.contains (f, kws.filterMap (fun k => k.arg), perm) && chkL c sc es (kws.map fun k => k.value)
    | _ => false
  | .bi b es, x => match b with
    | .lenSet => match x with
      | .Call fn [.Call fn2 [e] [] _] [] _ => isName sc "len" fn && isName sc "set" fn2 && !starB e && chkL c sc es [e]
      | _ => false
    | .isLT => match x with
      | .Call fn [e, .Tuple [t1, t2] _ _] [] _ => isName sc "isinstance" fn && isName sc "list" t1 && isName sc "tuple" t2 && chkL c sc es [e]
      | _ => false
    | .isInt | .isBool | .isList | .isTuple | .isStr | .isDict => match x with
      | .Call fn [e, t] [] _ => isName sc "isinstance" fn && isName sc (Str.ofString (kName b)) t && chkL c sc es [e]
      | _ => false
    | _ => match x with
      | .Call fn xs [] _ => isName sc (biName b) fn && chkL c sc es xs
      | _ => false
  | .mt m o es, x => match x with
    | .Call (.Attribute oe name apos) xs [] pos => decide (name = mtName m) && (apos.endLine == pos.line) && !bareB oe && chkE c sc o oe && chkL c sc es xs && decide (xs.length < 29)
    | _ => false
  | .idx a i, x => match x with
    | .Subscript ae ie _ => chkE c sc a ae && chkE c sc i ie && !sliceB ie
    | _ => false
  | .sl a lo hi, x => match x with
    | .Subscript ae (.Slice l h none _) _ => chkE c sc a ae && chkO c sc lo l && chkO c sc hi h
    | _ => false
  | .slr a hi, x => match x with
    | .Subscript ae (.Slice none h (some (.UnaryOp .USub (.Constant (.int 1) _ _) _)) _) _ => chkE c sc a ae && chkO c sc hi h
    | _ => false
  | .lc own tg it ifs el, x => match x with
    | .ListComp elt [⟨tge, ite, ifse, 0⟩] scope _ => decide ((ownP c.N own).map (·.2) = own) && blkC c.N sc scope (ownP c.N own) && chkG c (relS scope sc) (locB scope) (some own) tg tge && chkI c sc it tge ite && chkT c (relS scope sc) ifs ifse && chkE c (relS scope sc) el elt && !setB ite
    | _ => false
  | .thaw e, x => chkE c sc e x
  | .lrng es, x => match x with
    | .Call fn [.Call fn2 xs [] p] [] _ => isName sc "list" fn && isName sc "range" fn2 && chkL c sc es xs && (xs.length == 1 || xs.length == 2)
    | _ => false
  | _, _ => false
def chkL (c : Ck) (sc : Scope) : T → List Expr → Bool
  | .nil, xs => xs.isEmpty
  | .cons a b, xs => match xs with
    | x :: r => !starB x && chkE c sc a x && chkL c sc b r
    | [] => false
  | _, _ => false
def chkO (c : Ck) (sc : Scope) : T → Option Expr → Bool
  | .nil, x => x.isNone
  | .cons a _, x => match x with
    | some e => chkE c sc a e
    | none => false
  | _, _ => false
def chkT (c : Ck) (sc : Scope) : T → List Expr → Bool
  | .nil, xs => xs.isEmpty
  | .cons a _, xs => match xs with
    | [x] => chkE c sc a x
    | _ => false
  | _, _ => false
def chkI (c : Ck) (sc : Scope) : T → Expr → Expr → Bool
  | .rng es, _, x => match x with
    | .Call fn xs [] _ => isName sc "range" fn && chkL c sc es xs && (xs.length == 1 || xs.length == 2)
    | _ => false
  | .enumr e, tg, x => match x, tg with
    | .Call fn [a] [] _, .Tuple _ _ _ => isName sc "enumerate" fn && !starB a && chkE c sc e a
    | _, _ => false
  | .cons e _, _, x => chkE c sc e x
  | _, _, _ => false
end
end TW
end
section
set_option Elab.async false
set_option linter.all false
set_option maxRecDepth 100000
set_option maxHeartbeats 1000000
/-! TwRead: the readings that the evaluator gives, targets. -/
namespace TW
open PySem PySem.Spec PyProof.Rows L2

abbrev Evf := Evn → Sto → Option (PyData × Sto)
/-- what is promised of a def whose evaluation is g -/
def spC (K : PySem.W.Frag) (g : List PyData → Sto → Option (PyData × Sto)) (np : Nat) (fr : Bool) : Sp := fun vs H Q _ =>
  vs.length = np ∧ ∃ z ds d S', StC K z H ∧ RvL K z H vs ds ∧ g ds z.S = some (d, S') ∧
    ∀ z' v H', z'.S = S' → z'.μ = z.μ → StC K z' H' → Sf z H z' H' → Dq K (z'.mask H') v d → (fr = true → Fr K z H z' H' v d) → Q v H'
def gK {α : Type} (d : α) (ks : List Str) (perm : List Nat) (us ws : List α) : List α := if ws.length = ks.length then us ++ perm.map (fun j => ws.getD j d) else []
structure Gd (X : Cx) (c : Ck) (sc : Scope) (tb : Tb) (F : Clf) : Prop where
  calm : X.calm = true
  n : X.N = c.N
  nd : c.N.Nodup
  scp : X.env.scope = sc
  gu : X.A.guards = some []
  un : X.A.units + 70 < cLine
  bn : ∀ x ∈ bltNames, X.mg x = none
  cal : ∀ f fn nm, tb f = some fn → c.nm f = some nm → ∃ fa fd ps k, X.mg nm = some (.ref fa) ∧ PySem.W.keepIn X.K (.ref fa) = true ∧ Binds X.K fd ps [] ∧ ps.length = fn.np ∧ Room k X.A ∧
    FnG X.prog X.w X.K X.mg X.base CX0 k fa fd ps (spC X.K (F f) fn.np fn.fr) ∧ ∀ ks perm, (f, ks, perm) ∈ c.kw → KBinds X.K fd ps ks (gK Value.none ks perm) (gK V.non ks perm)
  has : ∀ f ds S, tb f = none → F f ds S = none
  fit : ∀ f fn ds S r, tb f = some fn → F f ds S = some r → ds.length = fn.np

def tE (K : PySem.W.Frag) (g : Evf) (fr : Bool) : TE := fun σ H Q => ∃ z env d S', StC K z H ∧ EvOk K z H env σ ∧ g env z.S = some (d, S') ∧
  ∀ z' v H', z'.S = S' → StC K z' H' → Sf z H z' H' → Rv K z' H' v d → (fr = true → Fr K z H z' H' v d) → Q v H'
def tT (K : PySem.W.Frag) (g : Evf) : TT := fun σ H Q => ∃ z env b S', StC K z H ∧ EvOk K z H env σ ∧ g env z.S = some (.bool b, S') ∧
  ∀ z' H', z'.S = S' → StC K z' H' → Sf z H z' H' → Q b H'
def tA (K : PySem.W.Frag) (g : Evn → Sto → Option (List PyData × Sto)) : TA := fun σ H Q => ∃ z env ds S', StC K z H ∧ EvOk K z H env σ ∧ g env z.S = some (ds, S') ∧
  ∀ z' vs H', z'.S = S' → StC K z' H' → Sf z H z' H' → RvL K z' H' vs ds → Q vs H'
def tO (K : PySem.W.Frag) (g : Evn → Sto → Option (Option PyData × Sto)) : TO := fun σ H Q => ∃ z env o S', StC K z H ∧ EvOk K z H env σ ∧ g env z.S = some (Option.map PyData.int o, S') ∧
  ∀ z' H', z'.S = S' → StC K z' H' → Sf z H z' H' → Q o H'
def tTs (K : PySem.W.Frag) (g : Evn → Sto → Option (Bool × Sto)) : TT := fun σ H Q => ∃ z env b S', StC K z H ∧ EvOk K z H env σ ∧ g env z.S = some (b, S') ∧
  ∀ z' H', z'.S = S' → StC K z' H' → Sf z H z' H' → Q b H'
/-- from one state to a later one in which more may be hidden -/
structure Sg (z : Zs) (H : Hp) (z' : Zs) (H' : Hp) : Prop where
  ex : ∃ ν, z'.μ = z.μ ++ ν
  le : Le (z.mask H) (z'.mask H')
  lk : ∀ (i : Nat) c, z.S[i]? = some (1, c) → z'.S[i]? = some (1, c)
theorem Sf.sg {z z' : Zs} {H H' : Hp} (s : Sf z H z' H') : Sg z H z' H' := ⟨s.ex, s.le, s.lk⟩
theorem Sg.trans {z1 z2 z3 : Zs} {H1 H2 H3 : Hp} (a : Sg z1 H1 z2 H2) (b : Sg z2 H2 z3 H3) : Sg z1 H1 z3 H3 := by
  obtain ⟨ν, e⟩ := a.ex
  obtain ⟨ν2, e2⟩ := b.ex
  exact ⟨⟨ν ++ ν2, by rw [e2, e, List.append_assoc]⟩, a.le.trans b.le, fun i c e => b.lk i c (a.lk i c e)⟩
theorem Rv.monoG {K : PySem.W.Frag} {z z' : Zs} {H H' : Hp} {v : V} {d : PyData} (s : Sg z H z' H') (h : Rv K z H v d) : Rv K z' H' v d := by
  rcases h with h | ⟨i, a, h1, h2, h3⟩
  · exact .inl (h.mono s.le)
  · obtain ⟨ν, e⟩ := s.ex
    exact .inr ⟨i, a, h1, by rw [e, List.getElem?_append_left (List.getElem?_eq_some_iff.mp h2).1]; exact h2, h3⟩
theorem EvOk.monoG {K : PySem.W.Frag} {z z' : Zs} {H H' : Hp} {env : Evn} {σ : L2.St} (s : Sg z H z' H') (h : EvOk K z H env σ) : EvOk K z' H' env σ :=
  ⟨h.el, fun k d e => let ⟨v, h1, h2⟩ := h.ev k d e; ⟨v, h1, h2.imp (Rv.monoG s) (Gr.mono s.le s.ex)⟩⟩
/-- J walks ds -/
def Wk (K : PySem.W.Frag) (z0 : Zs) (H0 : Hp) (J : It) (ds : List PyData) : Prop := ∀ (i : Nat) z H, StC K z H → Sg z0 H0 z H →
  (i < ds.length → J.go i H) ∧ (i = ds.length → J.stop i H) ∧
  ∀ x H', i < ds.length → J.yld i H x H' → ∃ d, ds[i]? = some d ∧ StC K z H' ∧ Sf z H z H' ∧ Dq K (z.mask H') x d
def tI (K : PySem.W.Frag) (g : Evn → Sto → Option (List PyData × Sto × Option Nat)) : TI := fun σ H R => ∃ z env ds S' lk, StC K z H ∧ EvOk K z H env σ ∧ g env z.S = some (ds, S', lk) ∧
  ∀ z' J H', z'.S = S' → StC K z' H' → Sf z H z' H' → Wk K z' H' J ds → (∀ i, lk = some i → (∃ d, S'[i]? = some (1, d)) ∧ ∀ c, z.S[i]? ≠ some (1, c)) → R J H'
/-- the slots of a target -/
def slotsT : T → List Nat
  | .var k => [k]
  | .tup ts => slotsT ts
  | .cons a b => slotsT a ++ slotsT b
  | _ => []
def tG (K : PySem.W.Frag) (tg : T) : TG := fun v σ H Q => ∃ z env d env', StC K z H ∧ EvOk K z H env σ ∧ Rv K z H v d ∧ (celOf d = none ∨ ∃ k, tg = .var k) ∧ bindT tg d env = some env' ∧
  ∀ σ', EvOk K z H env' σ' → (∀ ks : List Nat, (∀ k ∈ slotsT tg, k ∈ ks) → wipe σ' ks = wipe σ ks) → Q σ' H
def tGs (K : PySem.W.Frag) (tg : T) : TGs := fun vs σ H Q => ∃ z env ds env', StC K z H ∧ EvOk K z H env σ ∧ DqAll K (z.mask H) vs ds ∧ bindT tg (.list ds) env = some env' ∧
  ∀ σ', EvOk K z H env' σ' → (∀ ks : List Nat, (∀ k ∈ slotsT tg, k ∈ ks) → wipe σ' ks = wipe σ ks) → Q σ' H

theorem wipe_set {σ : L2.St} {k : Nat} {x : Option V} : ∀ {ks : List Nat}, k ∈ ks → wipe (σ.set k x) ks = wipe σ ks
  | [], h => absurd h (by simp)
  | v :: vs, h => by
    unfold wipe
    by_cases e : k = v
    · subst e
      by_cases hk : k ∈ vs
      · rw [wipe_set hk]
      · have : ∀ ws : List Nat, k ∉ ws → wipe (σ.set k x) ws = (wipe σ ws).set k x := fun ws => by
          induction ws with
          | nil => intro _; rfl
          | cons w ws ih =>
            intro hw
            simp only [List.mem_cons, not_or] at hw
            unfold wipe
            rw [ih hw.2, List.set_comm _ _ hw.1]
        rw [this vs hk, List.set_set]
    · rcases List.mem_cons.mp h with h | h
      · exact (e h).elim
      · rw [wipe_set h]
theorem EvOk.setR {K : PySem.W.Frag} {z : Zs} {H : Hp} {env : Evn} {σ : L2.St} (E : EvOk K z H env σ) {k : Nat} {d : PyData} {v : V} (r : Rg K z H v d) : EvOk K z H (env.set k (some d)) (σ.set k (some v)) := by
  refine ⟨by simpa using E.el, fun j e h => ?_⟩
  by_cases ej : k = j
  · subst ej
    have hk : k < env.length := by simpa using (List.getElem?_eq_some_iff.mp h).1
    rw [List.getElem?_set_self hk] at h
    cases h
    exact ⟨v, by rw [List.getElem?_set_self (by rw [← E.el]; exact hk)], r⟩
  · rw [List.getElem?_set_ne ej] at h ⊢
    exact E.ev j e h
theorem EvOk.set {K : PySem.W.Frag} {z : Zs} {H : Hp} {env : Evn} {σ : L2.St} (E : EvOk K z H env σ) {k : Nat} {d : PyData} {v : V} (r : Rv K z H v d) : EvOk K z H (env.set k (some d)) (σ.set k (some v)) := E.setR (.inl r)
theorem EvOk.wipe {K : PySem.W.Frag} {z : Zs} {H : Hp} {env : Evn} {σ : L2.St} (E : EvOk K z H env σ) : ∀ ks : List Nat, EvOk K z H (wipeE env ks) (L2.wipe σ ks)
  | [] => E
  | k :: ks => by
    have E2 := E.wipe ks
    unfold wipeE L2.wipe
    refine ⟨by simpa using E2.el, fun j e h => ?_⟩
    by_cases ej : k = j
    · subst ej
      by_cases hk : k < (wipeE env ks).length
      · rw [List.getElem?_set_self hk] at h; cases h
      · rw [List.getElem?_eq_none (by simpa using hk)] at h; cases h
    · rw [List.getElem?_set_ne ej] at h ⊢
      exact E2.ev j e h

/-! ### targets -/
theorem loc_of {sc : Scope} {x : Str} (h : locB sc x = true) : L2.Loc sc x := by
  unfold locB at h
  unfold L2.Loc
  split at h <;> first | (cases h; done) | skip
  · exact .inl (by assumption)
  · exact .inr (by assumption)
theorem vis_of {sc : Scope} {x : Str} (h : visB sc x = true) : Vis sc x := by
  unfold visB at h
  unfold Vis
  split at h <;> first | (cases h; done) | skip
  · exact .inl (by assumption)
  · exact .inr (.inl (by assumption))
  · exact .inr (.inr (by assumption))
theorem aEach {env : Env} {e : Expr} {es : List Expr} (h : starB e = false) : assignEach (e :: es) env = (false, assign e env) :: assignEach es env := by
  cases e <;> first | rfl | cases h
theorem sEach {env : Env} {e : Expr} {es : List Expr} (h : starB e = false) : starEach (e :: es) env = (false, eval e env) :: starEach es env := by
  cases e <;> first | rfl | cases h
variable {X : Cx} {c : Ck} {sc : Scope} {tb : Tb} {F : Clf}
theorem chkGs_each (G : Gd X c sc tb F) {st : Str → Bool} {only : Option (List Nat)} : ∀ (t : T) (xs : List Expr), chkGs c sc st only t xs = true → (assignEach xs X.env).findIdx? (·.1) = none ∧ (assignEach xs X.env).length = xs.length
  | .nil, xs, h => by
    have : xs = [] := by simpa [chkGs] using h
    subst this; exact ⟨rfl, rfl⟩
  | .cons a b, [], h => by simp [chkGs] at h
  | .cons a b, x :: r, h => by
    simp only [chkGs, Bool.and_eq_true, Bool.not_eq_true'] at h
    obtain ⟨⟨h1, h2⟩, h3⟩ := h
    obtain ⟨i1, i2⟩ := chkGs_each G b r h3
    rw [aEach h1]
    refine ⟨?_, by simp [i2]⟩
    rw [List.findIdx?_cons]
    simp [i1]
  | .var _, xs, h | .int _, xs, h | .str _, xs, h | .bl _, xs, h | .non, xs, h | .edict, xs, h | .bin .., xs, h | .neg _, xs, h | .cmp .., xs, h | .chain .., xs, h | .and .., xs, h | .or .., xs, h | .not _, xs, h | .ite .., xs, h | .tup _, xs, h
  | .lst _, xs, h | .call .., xs, h | .callk .., xs, h | .bi .., xs, h | .mt .., xs, h | .idx .., xs, h | .sl .., xs, h | .slr .., xs, h | .lc .., xs, h | .thaw _, xs, h | .rng _, xs, h | .enumr _, xs, h | .zipr .., xs, h | .lrng _, xs, h
  | .asg .., xs, h | .asgm .., xs, h | .asgi .., xs, h | .parr .., xs, h | .asgii .., xs, h | .retg _, xs, h | .par .., xs, h | .ex _, xs, h | .ret _, xs, h | .retm _, xs, h | .retn, xs, h | .iff .., xs, h | .forr .., xs, h | .whl .., xs, h | .pas, xs, h | .brk, xs, h | .cnt, xs, h | .rais, xs, h => by simp [chkGs] at h
theorem gs_len {st : Str → Bool} {only : Option (List Nat)} : ∀ (t : T) (xs : List Expr) (ds : List PyData) (env env' : Evn), chkGs c sc st only t xs = true → bindT t (.list ds) env = some env' → ds.length = xs.length
  | .nil, xs, ds, env, env', h, e => by
    have : xs = [] := by simpa [chkGs] using h
    subst this
    cases ds with
    | nil => rfl
    | cons d ds => simp [bindT] at e
  | .cons a b, [], _, _, _, h, _ => by simp [chkGs] at h
  | .cons a b, x :: r, ds, env, env', h, e => by
    simp only [chkGs, Bool.and_eq_true] at h
    cases ds with
    | nil => simp [bindT] at e
    | cons d ds =>
      simp only [bindT] at e
      obtain ⟨e1, _, e2⟩ := Option.bind_eq_some_iff.mp e
      simp [gs_len b r ds e1 env' h.2 e2]
  | .var _, xs, _, _, _, h, _ | .int _, xs, _, _, _, h, _ | .str _, xs, _, _, _, h, _ | .bl _, xs, _, _, _, h, _ | .non, xs, _, _, _, h, _ | .edict, xs, _, _, _, h, _ | .bin .., xs, _, _, _, h, _ | .neg _, xs, _, _, _, h, _ | .cmp .., xs, _, _, _, h, _
  | .chain .., xs, _, _, _, h, _ | .and .., xs, _, _, _, h, _ | .or .., xs, _, _, _, h, _ | .not _, xs, _, _, _, h, _ | .ite .., xs, _, _, _, h, _ | .tup _, xs, _, _, _, h, _ | .lst _, xs, _, _, _, h, _ | .call .., xs, _, _, _, h, _ | .callk .., xs, _, _, _, h, _
  | .bi .., xs, _, _, _, h, _ | .mt .., xs, _, _, _, h, _ | .idx .., xs, _, _, _, h, _ | .sl .., xs, _, _, _, h, _ | .slr .., xs, _, _, _, h, _ | .lc .., xs, _, _, _, h, _ | .thaw _, xs, _, _, _, h, _ | .rng _, xs, _, _, _, h, _ | .enumr _, xs, _, _, _, h, _
  | .zipr .., xs, _, _, _, h, _ | .lrng _, xs, _, _, _, h, _ | .asg .., xs, _, _, _, h, _ | .asgm .., xs, _, _, _, h, _ | .asgi .., xs, _, _, _, h, _ | .parr .., xs, _, _, _, h, _ | .asgii .., xs, _, _, _, h, _ | .retg _, xs, _, _, _, h, _ | .par .., xs, _, _, _, h, _ | .ex _, xs, _, _, _, h, _ | .ret _, xs, _, _, _, h, _ | .retm _, xs, _, _, _, h, _
  | .retn, xs, _, _, _, h, _ | .iff .., xs, _, _, _, h, _ | .forr .., xs, _, _, _, h, _ | .whl .., xs, _, _, _, h, _ | .pas, xs, _, _, _, h, _ | .brk, xs, _, _, _, h, _ | .cnt, xs, _, _, _, h, _ | .rais, xs, _, _, _, h, _ => by simp [chkGs] at h
def PGT (X : Cx) (c : Ck) (sc : Scope) (st : Str → Bool) (t : T) : Prop := (∀ only x, chkG c sc st only t x = true → PG X x (tG X.K t)) ∧ ∀ only xs, chkGs c sc st only t xs = true → PGs X xs (tGs X.K t)
theorem pg_all (G : Gd X c sc tb F) {st : Str → Bool} (hst : ∀ x, L2.Loc sc x → st x = true → X.fn x = true ∨ sc.names.lookup x = some .local) : ∀ t : T, PGT X c sc st t := by
  intro t
  induction t with
  | var k =>
    refine ⟨fun only x h => ?_, fun only xs h => by simp [chkGs] at h⟩
    cases x <;> first | (simp [chkG] at h; done) | skip
    next id pos =>
      simp only [chkG, Bool.and_eq_true, decide_eq_true_eq] at h
      obtain ⟨⟨⟨h1, h2⟩, h2b⟩, h3⟩ := h
      have hl := loc_of h2
      refine ⟨fun pins s σ H v u Q I r hq => ?_⟩
      obtain ⟨z, env, d, env', C, E, D, _, e, q⟩ := hq
      simp only [bindT] at e
      split at e
      · next hk =>
        cases e
        exact (pg_name (X := X) (i := k) (x := id) (by rw [G.n]; exact G.nd) (by rw [G.n]; exact h1) (by rw [G.scp]; exact hl) (by rw [G.scp]; exact hst id hl h2b)).run pins s σ H v u Q I r
          (q _ (E.set D) fun ks hks => wipe_set (hks k (by simp [slotsT])))
      · cases e
  | nil =>
    refine ⟨fun only x h => by simp [chkG] at h, fun only xs h => ?_⟩
    have : xs = [] := by simpa [chkGs] using h
    subst this
    refine ⟨fun pins s σ H vs us Q I r hq => ?_⟩
    obtain ⟨z, env, ds, env', C, E, D, e, q⟩ := hq
    cases D with
    | nil =>
      simp only [bindT, Option.some.injEq] at e
      subst e
      exact pgs_nil.run pins s σ H _ us Q I r ⟨rfl, q σ E fun _ _ => rfl⟩
    | cons _ _ => simp [bindT] at e
  | cons a b iha ihb =>
    refine ⟨fun only x h => by simp [chkG] at h, fun only xs h => ?_⟩
    cases xs with
    | nil => simp [chkGs] at h
    | cons x rr =>
      simp only [chkGs, Bool.and_eq_true, Bool.not_eq_true'] at h
      obtain ⟨⟨h1, h2⟩, h3⟩ := h
      refine ⟨fun pins s σ H vs us Q I r hq => ?_⟩
      obtain ⟨z, env, ds, env', C, E, D, e, q⟩ := hq
      cases D with
      | nil => simp [bindT] at e
      | cons D1 D2 =>
        simp only [bindT] at e
        obtain ⟨env1, e1, e2⟩ := Option.bind_eq_some_iff.mp e
        refine (pgs_cons (iha.1 only x h2) (ihb.2 only rr h3) (by rw [aEach h1]; rfl)).run pins s σ H _ us Q I r ⟨_, _, rfl, z, env, _, env1, C, E, .inl D1, .inl D1.noCel, e1, fun σ1 E1 w1 => ?_⟩
        exact ⟨z, env1, _, env', C, E1, D2, e2, fun σ2 E2 w2 => q σ2 E2 fun ks hks => (w2 ks fun k hk => hks k (by simp [slotsT, hk])).trans (w1 ks fun k hk => hks k (by simp [slotsT, hk]))⟩
  | tup ts ih =>
    refine ⟨fun only x h => ?_, fun only xs h => by simp [chkGs] at h⟩
    cases x <;> first | (simp [chkG] at h; done) | skip
    next xs n pos =>
      simp only [chkG] at h
      obtain ⟨hfi, hn⟩ := chkGs_each G ts xs h
      refine ⟨fun pins s σ H v u Q I r hq => ?_⟩
      obtain ⟨z, env, d, env', C, E, D, hd, e, q⟩ := hq
      have D := D.data (hd.elim id fun ⟨_, e⟩ => by cases e)
      have fin : ∀ {vs ds}, DqAll X.K (z.mask H) vs ds → bindT ts (.list ds) env = some env' → tGs X.K ts vs σ H Q ∧ vs.length = xs.length := fun {vs ds} Da e =>
        ⟨⟨z, env, ds, env', C, E, Da, e, fun σ' E' w => q σ' E' fun ks hks => w ks fun k hk => hks k (by simpa [slotsT] using hk)⟩, by rw [Da.len]; exact gs_len ts xs ds env env' h e⟩
      cases D with
      | lst h1 h2 =>
        simp only [bindT] at e
        obtain ⟨f1, f2⟩ := fin h2 e
        exact (pg_unl G.calm (ih.2 only xs h) hn hfi).run pins s σ H _ u Q I r ⟨_, _, rfl, SqL.of (z.mask_le H _ _ h1), f2, f1⟩
      | tup h1 h2 =>
        simp only [bindT] at e
        obtain ⟨f1, f2⟩ := fin h2 e
        exact (pg_tup G.calm (ih.2 only xs h) hn hfi).run pins s σ H _ u Q I r ⟨_, _, rfl, SqT.of (z.mask_le H _ _ h1), f2, f1⟩
      | _ => simp [bindT, scrD] at e
  | _ => exact ⟨fun only x h => by simp [chkG] at h, fun only xs h => by simp [chkGs] at h⟩
end TW
end
section
set_option Elab.async false
set_option linter.all false
set_option maxRecDepth 100000
set_option maxHeartbeats 2000000
/-! TwExpr: the evaluator is right for expressions. -/
namespace TW
open PySem PySem.Spec PyProof.Rows L2

section
variable {K : PySem.W.Frag} {σ : L2.St} {H : Hp} {Q : VK} {fr fa fb : Bool} {ga gb : Evf}
theorem obind {α β : Type} {o : Option α} {f : α → Option β} {r : β} (h : o.bind f = some r) : ∃ a, o = some a ∧ f a = some r := Option.bind_eq_some_iff.mp h
theorem omap {α β : Type} {o : Option α} {f : α → β} {r : β} (h : o.map f = some r) : ∃ a, o = some a ∧ f a = r := Option.map_eq_some_iff.mp h
theorem true_inv {d : PyData} {k : Bool} (h : isTrueD d = some k) : d = .bool k := by
  unfold isTrueD at h
  split at h
  · cases h; rfl
  · cases h
theorem tT_tE {g : Evf} {Q : Bool → Hp → Prop} (h : tT K g σ H Q) : tE K g fr σ H fun x H1 => ∃ k, x = .bl k ∧ Q k H1 := by
  obtain ⟨z, env, b, S', C, E, e, q⟩ := h
  exact ⟨z, env, _, S', C, E, e, fun z' v H' s C' F' R _ => ⟨b, R.bool, q z' H' s C' F'⟩⟩
/-- no reading at all -/
theorem pe_abs {X : Cx} {x : Expr} {t : TE} (h : ∀ σ H Q, t σ H Q → False) : PE X x t := ⟨fun _ _ σ H Q _ hq => (h σ H Q hq).elim⟩

/-! ### one operand, two operands -/
theorem step1 {r : V → Hp → VK → Prop} {k : PyData × Sto → Option (PyData × Sto)} (h : tE K (fun env S => (ga env S).bind k) fr σ H Q)
    (hr : ∀ z v d H S' d', StC K z H → Rv K z H v d → k (d, z.S) = some (d', S') → (∀ z' v' H', z'.S = S' → StC K z' H' → Sf z H z' H' → Rv K z' H' v' d' → (fr = true → Fr K z H z' H' v' d') → Q v' H') → r v H Q) :
    tE K ga fa σ H fun x H1 => r x H1 Q := by
  obtain ⟨z, env, d, S', C, E, e, q⟩ := h
  obtain ⟨r1, e1, e⟩ := obind e
  refine ⟨z, env, r1.1, r1.2, C, E, e1, fun z1 v1 H1 s1 C1 F1 R1 _ => hr z1 v1 r1.1 H1 S' d C1 R1 (by rw [s1]; exact e) fun z' v' H' s C' F' R' f' => q z' v' H' s C' (F1.trans F') R' fun hf => (f' hf).before F1⟩
theorem step2 {r : R2} {k : PyData × Sto → PyData × Sto → Option (PyData × Sto)} (h : tE K (fun env S => (ga env S).bind fun u => (gb env u.2).bind fun w => k u w) fr σ H Q) (hk : ∀ a S1 b S2, k (a, S1) (b, S2) = k (a, []) (b, S2))
    (hr : ∀ z v w d e H S' d', StC K z H → Rv K z H v d → Rv K z H w e → k (d, []) (e, z.S) = some (d', S') → (∀ z' v' H', z'.S = S' → StC K z' H' → Sf z H z' H' → Rv K z' H' v' d' → (fr = true → Fr K z H z' H' v' d') → Q v' H') → r v w H Q) :
    tOp r (tE K ga fa) (tE K gb fb) σ H Q := by
  obtain ⟨z, env, d, S', C, E, e, q⟩ := h
  obtain ⟨r1, e1, e⟩ := obind e
  obtain ⟨r2, e2, e⟩ := obind e
  refine ⟨z, env, r1.1, r1.2, C, E, e1, fun z1 v1 H1 s1 C1 F1 R1 _ => ⟨z1, env, r2.1, r2.2, C1, E.mono F1, by rw [s1]; exact e2, fun z2 v2 H2 s2 C2 F2 R2 _ => ?_⟩⟩
  refine hr z2 v1 v2 r1.1 r2.1 H2 S' d C2 (R1.mono F2) R2 (by rw [s2, ← hk r1.1 r1.2]; exact e) fun z' v' H' s C' F' R' f' => q z' v' H' s C' (F1.trans (F2.trans F')) R' fun hf => (f' hf).before (F1.trans F2)
/-- what Res hands on -/
theorem res_of {z : Zs} {H : Hp} {d : PyData} (q : ∀ z' v' H', z'.S = z.S → StC K z' H' → Sf z H z' H' → Rv K z' H' v' d → (fr = true → Fr K z H z' H' v' d) → Q v' H') : Res K z H d Q :=
  fun v H' C F D f => q z v H' rfl C F (.inl D) fun _ ds e => f ds e ds e
theorem bin_step {o : Op} (h : tE K (fun env S => (ga env S).bind fun r => (gb env r.2).bind fun q => (binD o (peek q.2 r.1) (peek q.2 q.1)).map fun d => (d, q.2)) fr σ H Q) : tOp (rB K o) (tE K ga fa) (tE K gb fb) σ H Q :=
  step2 h (fun _ _ _ _ => rfl) fun z v w d e H S' d' C R1 R2 hk q => by
    obtain ⟨x, hx, ex⟩ := omap hk
    cases ex
    exact ⟨z, _, _, d', C, R1.look C, R2.look C, hx, res_of (fr := fr) q⟩
theorem cmp_step {o : Cp} (h : tE K (fun env S => (ga env S).bind fun r => (gb env r.2).bind fun q => (cmpD o (peek q.2 r.1) (peek q.2 q.1)).map fun d => (.bool d, q.2)) fr σ H Q) : tOp (rC K o) (tE K ga fa) (tE K gb fb) σ H Q :=
  step2 h (fun _ _ _ _ => rfl) fun z v w d e H S' d' C R1 R2 hk q => by
    obtain ⟨x, hx, ex⟩ := omap hk
    cases ex
    exact ⟨_, _, x, (R1.look C).full, (R2.look C).full, hx, q z _ H rfl C (Sf.refl z H) (.inl (.bl x)) fun _ ds e => by cases e⟩
theorem chain_step {gc : Evf} {fc : Bool} {o p : Cp} (h : tE K (fun env S => (ga env S).bind fun r => (gb env r.2).bind fun q => (cmpD o (peek q.2 r.1) (peek q.2 q.1)).bind fun k =>
      if k then (gc env q.2).bind fun u => (cmpD p (peek u.2 q.1) (peek u.2 u.1)).map fun d => (.bool d, u.2) else some (.bool false, q.2)) fr σ H Q) : tChain (rC K o) (rC K p) (tE K ga fa) (tE K gb fb) (tE K gc fc) σ H Q := by
  obtain ⟨z, env, d, S', C, E, e, q⟩ := h
  obtain ⟨r1, e1, e⟩ := obind e
  obtain ⟨r2, e2, e⟩ := obind e
  obtain ⟨k, e3, e⟩ := obind e
  refine ⟨z, env, r1.1, r1.2, C, E, e1, fun z1 v1 H1 s1 C1 F1 R1 _ => ⟨z1, env, r2.1, r2.2, C1, E.mono F1, by rw [s1]; exact e2, fun z2 v2 H2 s2 C2 F2 R2 _ => ?_⟩⟩
  refine ⟨_, _, k, ((R1.mono F2).look C2).full, (R2.look C2).full, by rw [s2]; exact e3, k, rfl, ?_⟩
  cases k with
  | false =>
    cases e
    exact q z2 _ H2 s2 C2 (F1.trans F2) (.inl (.bl false)) fun _ ds e => by cases e
  | true =>
    simp only [if_true] at e ⊢
    obtain ⟨r3, e4, e⟩ := obind e
    obtain ⟨x, hx, ex⟩ := omap e
    cases ex
    refine ⟨z2, env, r3.1, r3.2, C2, (E.mono F1).mono F2, by rw [s2]; exact e4, fun z3 v3 H3 s3 C3 F3 R3 _ => ?_⟩
    exact ⟨_, _, x, ((R2.mono F3).look C3).full, (R3.look C3).full, by rw [s3]; exact hx, q z3 _ H3 s3 C3 (F1.trans (F2.trans F3)) (.inl (.bl x)) fun _ ds e => by cases e⟩
theorem and_step (h : tE K (fun env S => (ga env S).bind fun r => (isTrueD r.1).bind fun k => if k then gb env r.2 else some (.bool false, r.2)) false σ H Q) : tAndV (tE K ga fa) (tE K gb fb) σ H Q := by
  obtain ⟨z, env, d, S', C, E, e, q⟩ := h
  obtain ⟨r1, e1, e⟩ := obind e
  obtain ⟨k, e2, e⟩ := obind e
  refine ⟨z, env, r1.1, r1.2, C, E, e1, fun z1 v1 H1 s1 C1 F1 R1 _ => ⟨k, (true_inv e2 ▸ R1).bool, ?_⟩⟩
  cases k with
  | false =>
    cases e
    exact q z1 _ H1 s1 C1 F1 (.inl (.bl false)) fun h => by cases h
  | true =>
    exact ⟨z1, env, d, S', C1, E.mono F1, by rw [s1]; exact e, fun z2 v2 H2 s2 C2 F2 R2 _ => q z2 v2 H2 s2 C2 (F1.trans F2) R2 fun h => by cases h⟩
theorem or_step (h : tE K (fun env S => (ga env S).bind fun r => (isTrueD r.1).bind fun k => if k then some (.bool true, r.2) else gb env r.2) false σ H Q) : tOrV (tE K ga fa) (tE K gb fb) σ H Q := by
  obtain ⟨z, env, d, S', C, E, e, q⟩ := h
  obtain ⟨r1, e1, e⟩ := obind e
  obtain ⟨k, e2, e⟩ := obind e
  refine ⟨z, env, r1.1, r1.2, C, E, e1, fun z1 v1 H1 s1 C1 F1 R1 _ => ⟨k, (true_inv e2 ▸ R1).bool, ?_⟩⟩
  cases k with
  | true =>
    cases e
    exact q z1 _ H1 s1 C1 F1 (.inl (.bl true)) fun h => by cases h
  | false =>
    exact ⟨z1, env, d, S', C1, E.mono F1, by rw [s1]; exact e, fun z2 v2 H2 s2 C2 F2 R2 _ => q z2 v2 H2 s2 C2 (F1.trans F2) R2 fun h => by cases h⟩
theorem not_step (h : tE K (fun env S => (ga env S).bind fun r => (isTrueD r.1).map fun k => (PyData.bool (!k), r.2)) false σ H Q) : tNotV (tE K ga fa) σ H Q :=
  step1 (r := fun x H1 Q => ∃ c, x = V.bl c ∧ Q (.bl (!c)) H1) h fun z v d H S' d' C R hk q => by
    obtain ⟨k, e1, e2⟩ := omap hk
    cases e2
    exact ⟨k, ((true_inv e1 : d = PyData.bool k) ▸ R).bool, q z _ H rfl C (Sf.refl z H) (.inl (.bl _)) fun h => by cases h⟩
variable {gt : Evf}
theorem ite_step (h : tE K (fun env S => (gt env S).bind fun r => (isTrueD r.1).bind fun k => if k then ga env r.2 else gb env r.2) (fa && fb) σ H Q) : tIf (tT K gt) (tE K ga fa) (tE K gb fb) σ H Q := by
  obtain ⟨z, env, d, S', C, E, e, q⟩ := h
  obtain ⟨r1, e1, e⟩ := obind e
  obtain ⟨k, e2, e⟩ := obind e
  obtain ⟨d1, S1⟩ := r1
  obtain rfl := true_inv e2
  refine ⟨z, env, k, S1, C, E, e1, fun z1 H1 s1 C1 F1 => ?_⟩
  cases k with
  | true =>
    simp only [if_true] at e ⊢
    exact ⟨z1, env, d, S', C1, E.mono F1, by rw [s1]; exact e, fun z2 v2 H2 s2 C2 F2 R2 f => q z2 v2 H2 s2 C2 (F1.trans F2) R2 fun h => (f (by simp only [Bool.and_eq_true] at h; exact h.1)).before F1⟩
  | false =>
    simp only [if_false, Bool.false_eq_true] at e ⊢
    exact ⟨z1, env, d, S', C1, E.mono F1, by rw [s1]; exact e, fun z2 v2 H2 s2 C2 F2 R2 f => q z2 v2 H2 s2 C2 (F1.trans F2) R2 fun h => (f (by simp only [Bool.and_eq_true] at h; exact h.2)).before F1⟩
/-! as tests -/
theorem andT_step {Q : Bool → Hp → Prop} (h : tT K (fun env S => (ga env S).bind fun r => (isTrueD r.1).bind fun k => if k then gb env r.2 else some (.bool false, r.2)) σ H Q) : tAnd (tT K ga) (tT K gb) σ H Q := by
  obtain ⟨z, env, d, S', C, E, e, q⟩ := h
  obtain ⟨⟨d1, S1⟩, e1, e⟩ := obind e
  obtain ⟨k, e2, e⟩ := obind e
  obtain rfl := true_inv e2
  refine ⟨z, env, k, S1, C, E, e1, fun z1 H1 s1 C1 F1 => ?_⟩
  cases k with
  | true =>
    simp only [if_true] at e ⊢
    exact ⟨z1, env, d, S', C1, E.mono F1, by rw [s1]; exact e, fun z2 H2 s2 C2 F2 => q z2 H2 s2 C2 (F1.trans F2)⟩
  | false =>
    cases e
    exact q z1 H1 s1 C1 F1
theorem orT_step {Q : Bool → Hp → Prop} (h : tT K (fun env S => (ga env S).bind fun r => (isTrueD r.1).bind fun k => if k then some (.bool true, r.2) else gb env r.2) σ H Q) : tOr (tT K ga) (tT K gb) σ H Q := by
  obtain ⟨z, env, d, S', C, E, e, q⟩ := h
  obtain ⟨⟨d1, S1⟩, e1, e⟩ := obind e
  obtain ⟨k, e2, e⟩ := obind e
  obtain rfl := true_inv e2
  refine ⟨z, env, k, S1, C, E, e1, fun z1 H1 s1 C1 F1 => ?_⟩
  cases k with
  | false =>
    simp only [if_false, Bool.false_eq_true] at e ⊢
    exact ⟨z1, env, d, S', C1, E.mono F1, by rw [s1]; exact e, fun z2 H2 s2 C2 F2 => q z2 H2 s2 C2 (F1.trans F2)⟩
  | true =>
    cases e
    exact q z1 H1 s1 C1 F1
theorem notT_step {Q : Bool → Hp → Prop} (h : tT K (fun env S => (ga env S).bind fun r => (isTrueD r.1).map fun k => (PyData.bool (!k), r.2)) σ H Q) : tNot (tT K ga) σ H Q := by
  obtain ⟨z, env, d, S', C, E, e, q⟩ := h
  obtain ⟨⟨d1, S1⟩, e1, e⟩ := obind e
  obtain ⟨k, e2, e⟩ := omap e
  obtain rfl := true_inv e2
  cases e
  exact ⟨z, env, k, S1, C, E, e1, q⟩
/-! ### argument lists -/
theorem consA_step {gs : Evn → Sto → Option (List PyData × Sto)} {Q : List V → Hp → Prop} (h : tA K (fun env S => (ga env S).bind fun r => (gs env r.2).map fun q => (r.1 :: q.1, q.2)) σ H Q) : tCons (tE K ga fa) (tA K gs) σ H Q := by
  obtain ⟨z, env, d, S', C, E, e, q⟩ := h
  obtain ⟨r1, e1, e⟩ := obind e
  obtain ⟨r2, e2, e⟩ := omap e
  cases e
  exact ⟨z, env, r1.1, r1.2, C, E, e1, fun z1 v1 H1 s1 C1 F1 R1 _ => ⟨z1, env, r2.1, r2.2, C1, E.mono F1, by rw [s1]; exact e2, fun z2 vs H2 s2 C2 F2 R2 => q z2 _ H2 s2 C2 (F1.trans F2) (.cons (R1.mono F2) R2)⟩⟩
variable {gs : Evn → Sto → Option (List PyData × Sto)}
theorem tup_step (h : tE K (fun env S => (gs env S).bind fun r => (settleAll r.2 r.1).bind fun q => if q.1.length ≤ line then some (.tuple q.1, q.2) else none) fr σ H Q) : tTup (tA K gs) σ H Q := by
  obtain ⟨z, env, d, S', C, E, e, q⟩ := h
  obtain ⟨r1, e1, e⟩ := obind e
  obtain ⟨r2, e2, e⟩ := obind e
  by_cases hl : r2.1.length ≤ line
  case neg => rw [if_neg hl] at e; cases e
  case pos =>
    rw [if_pos hl] at e
    cases e
    refine ⟨z, env, r1.1, r1.2, C, E, e1, fun z1 vs H1 s1 C1 F1 R1 => ?_⟩
    obtain ⟨z2, s2, _, _, C2, F2, D2⟩ := settleAll_ok C1 R1 (show settleAll z1.S r1.1 = some (r2.1, r2.2) by rw [s1]; exact e2)
    rw [line_eq] at hl
    refine ⟨by rw [D2.len]; exact hl, fun p hp => ?_⟩
    obtain ⟨C3, F3⟩ := C2.alloc hp (.tup vs)
    exact q z2 _ _ s2 C3 (F1.trans (F2.trans F3)) (.inl (Dq.newTup C2 D2 p hp)) fun _ ds e => by cases e
theorem lst_step (h : tE K (fun env S => (gs env S).bind fun r => (settleAll r.2 r.1).bind fun q => if q.1.length ≤ line then some (.list q.1, q.2) else none) fr σ H Q) : tLst (tA K gs) σ H Q := by
  obtain ⟨z, env, d, S', C, E, e, q⟩ := h
  obtain ⟨r1, e1, e⟩ := obind e
  obtain ⟨r2, e2, e⟩ := obind e
  by_cases hl : r2.1.length ≤ line
  case neg => rw [if_neg hl] at e; cases e
  case pos =>
    rw [if_pos hl] at e
    cases e
    refine ⟨z, env, r1.1, r1.2, C, E, e1, fun z1 vs H1 s1 C1 F1 R1 => ?_⟩
    obtain ⟨z2, s2, _, _, C2, F2, D2⟩ := settleAll_ok C1 R1 (show settleAll z1.S r1.1 = some (r2.1, r2.2) by rw [s1]; exact e2)
    rw [line_eq] at hl
    refine ⟨by rw [D2.len]; exact hl, fun p hp => ?_⟩
    obtain ⟨C3, F3⟩ := C2.alloc hp (.lst vs)
    obtain ⟨D3, f3⟩ := C2.fresh hp D2
    exact q z2 _ _ s2 C3 (F1.trans (F2.trans F3)) (.inl D3) fun _ => f3.before (F1.trans F2)
theorem call_step {f : Nat} {F : Clf} {rs : List Bool} {np : Nat} {ffr : Bool} (hnp : ∀ ds S r, F f ds S = some r → ds.length = np) (hfr : fr = true → ffr = true)
    (h : tE K (fun env S => (gs env S).bind fun r => (settleBy rs r.2 r.1).bind fun q => callD F f q.1 q.2) fr σ H Q) : tCall (spC K (F f) np ffr) [] E0 (tA K gs) σ H Q := by
  obtain ⟨z, env, d, S', C, E, e, q⟩ := h
  obtain ⟨r1, e1, e⟩ := obind e
  obtain ⟨r2, e2, e⟩ := obind e
  refine ⟨z, env, r1.1, r1.2, C, E, e1, fun z1 vs H1 s1 C1 F1 R1 => ?_⟩
  obtain ⟨z2, s2, _, _, C2, F2, D2⟩ := settleBy_ok C1 R1 (show settleBy rs z1.S r1.1 = some (r2.1, r2.2) by rw [s1]; exact e2)
  rw [List.append_nil]
  obtain ⟨z0, ds0, S0, C0, R0, g0, l0, back⟩ := call_own (ffr := ffr) (d := d) (S' := S') C2 D2 (show callD F f r2.1 z2.S = some (d, S') by rw [s2]; exact e)
  refine ⟨(Paired.length R0 : vs.length = ds0.length).trans (hnp _ _ _ g0), z0, ds0, d, S0, C0, R0, g0, fun z' v H' s' m' C' F' D' f' => ?_⟩
  obtain ⟨z3, s3, _, C3, F3, D3, f3⟩ := back z' v H' s' m' C' F' D' f'
  exact q z3 v H' s3 C3 (F1.trans (F2.trans F3)) (.inl D3) fun hf => (f3 (hfr hf)).before (F1.trans F2)
end
end TW
end
section
set_option Elab.async false
set_option linter.all false
set_option maxRecDepth 100000
set_option maxHeartbeats 2000000
/-! TwLc: comprehensions, what is walked. -/
namespace TW
open PySem PySem.Spec PyProof.Rows L2
section
variable {K : PySem.W.Frag} {z : Zs} {H : Hp}

/-! ### one more thing hidden -/
theorem hide_busy {D : Addr} {G : List Addr} {μ : List Addr} {S : Sto} (b : Addr) : (⟨D :: G, μ, S⟩ : Zs).busy b ↔ b = D ∨ (⟨G, μ, S⟩ : Zs).busy b := by
  unfold Zs.busy
  simp only [List.mem_cons]
  exact or_assoc
theorem show_le {D : Addr} {G : List Addr} {μ : List Addr} {S : Sto} : Le ((⟨D :: G, μ, S⟩ : Zs).mask H) ((⟨G, μ, S⟩ : Zs).mask H) := fun b o e => by
  obtain ⟨e1, e2⟩ := Zs.mask_some.mp e
  exact Zs.mask_some.mpr ⟨fun q => e1 ((hide_busy b).mpr (.inr q)), e2⟩
theorem StC.unhide {D : Addr} {G : List Addr} {μ : List Addr} {S : Sto} (C : StC K ⟨D :: G, μ, S⟩ H) : StC K ⟨G, μ, S⟩ H :=
  ⟨C.len, C.nd, fun g hg => C.gm g (List.mem_cons_of_mem _ hg), fun i a c h1 h2 => let ⟨xs, ds, q1, q2, q3⟩ := C.cl i a c h1 h2; ⟨xs, ds, q1, q2, q3.mono show_le⟩⟩
/-- what is hidden may change -/
theorem StC.updG (C : StC K z H) {g : Addr} (hg : g ∈ z.G) (o : HO) : StC K z (upd H g o) ∧ z.mask (upd H g o) = z.mask H := by
  have hm : z.mask (upd H g o) = z.mask H := by
    funext b
    unfold Zs.mask
    by_cases e : z.busy b
    · rw [if_pos e, if_pos e]
    · rw [if_neg e, if_neg e, upd_ne (fun (q : b = g) => e (.inl (q ▸ hg)))]
  refine ⟨⟨C.len, C.nd, fun g' hg' => ⟨(C.gm g' hg').1, ?_⟩, fun i a c h1 h2 => ?_⟩, hm⟩
  · by_cases e : g' = g
    · subst e; rw [upd_same]; simp
    · rw [upd_ne e]; exact (C.gm g' hg').2
  · obtain ⟨xs, ds, q1, q2, q3⟩ := C.cl i a c h1 h2
    exact ⟨xs, ds, q1, by rw [upd_ne (fun (q : a = g) => (C.gm g hg).1 (q ▸ List.mem_of_getElem? h1))]; exact q2, by rw [hm]; exact q3⟩
/-- unlocking -/
theorem unlock_ok (C : StC K z H) {lk : Option Nat} (hl : ∀ i, lk = some i → ∃ d, z.S[i]? = some (1, d)) :
    StC K { z with S := unlock lk z.S } H ∧ ({ z with S := unlock lk z.S } : Zs).mask H = z.mask H ∧ ∀ (j : Nat) c, lk ≠ some j → z.S[j]? = some c → (unlock lk z.S)[j]? = some c := by
  cases lk with
  | none => exact ⟨C, rfl, fun _ _ _ h => h⟩
  | some i =>
    obtain ⟨d, hd⟩ := hl i rfl
    have e : unlock (some i) z.S = z.S.set i (0, d) := by unfold unlock; simp only [hd]
    rw [e]
    have hi : i < z.S.length := (List.getElem?_eq_some_iff.mp hd).1
    obtain ⟨c1, _, c3⟩ := C.turn hd (by decide) (show 0 ≠ 2 by decide)
    refine ⟨c1, ?_, fun j c hj h => c3 j c (fun e => hj (by rw [e])) h⟩
    have hb : ∀ b, ({ z with S := z.S.set i (0, d) } : Zs).busy b ↔ z.busy b := fun b => by
      unfold Zs.busy
      refine or_congr Iff.rfl ⟨fun ⟨j, d', h1, h2, h3⟩ => ?_, fun ⟨j, d', h1, h2, h3⟩ => ?_⟩
      · by_cases e : i = j
        · subst e; exact ⟨i, _, h1, hd, (by decide : (1 : Nat) ≠ 2)⟩
        · exact ⟨j, d', h1, by rwa [List.getElem?_set_ne e] at h2, h3⟩
      · by_cases e : i = j
        · subst e; exact ⟨i, (0, d), h1, by rw [List.getElem?_set_self hi], (by decide : (0 : Nat) ≠ 2)⟩
        · exact ⟨j, d', h1, by rw [List.getElem?_set_ne e]; exact h2, h3⟩
    funext b
    unfold Zs.mask
    by_cases e : z.busy b
    · rw [if_pos ((hb b).mpr e), if_pos e]
    · rw [if_neg (fun q => e ((hb b).mp q)), if_neg e]
end

section
variable {K : PySem.W.Frag} {σ : L2.St} {H : Hp} {Q : VK}
/-- the turns of a comprehension -/
theorem lc_step {own : List Nat} {tg : T} {gi : Evn → Sto → Option (List PyData × Sto × Option Nat)} {gt : Evn → Sto → Option (Bool × Sto)} {ge : Evf} {fe : Bool} (hown : ∀ k ∈ slotsT tg, k ∈ own)
    (h : tE K (fun env S => (gi env S).bind fun r => (lcLoop (fun x S1 => (bindT tg x (wipeE env own)).bind fun e1 => (gt e1 S1).bind fun t => if t.1 then (ge e1 t.2).bind fun y => (settle y.2 y.1).map fun z => (some z.1, z.2) else some (none, t.2)) r.1 [] r.2.1).map fun q => (.list q.1, unlock r.2.2 q.2)) true σ H Q) :
    tLc (tI K gi) (tG K tg) (tTs K gt) (tE K ge fe) own σ H Q := by
  obtain ⟨z, env, d, S', C, E, e, q⟩ := h
  obtain ⟨⟨items, S1, lk⟩, e1, e⟩ := obind e
  obtain ⟨⟨outs, S2⟩, e2, e⟩ := omap e
  cases e
  refine ⟨z, env, items, S1, lk, C, E, e1, fun z1 J H1 s1 C1 F1 wk hlk D hD => ?_⟩
  obtain ⟨D0, xs0, ed, hD0, nG, nmu, CD, DD, LD⟩ := (C1.fresh hD (xs := []) (ds := []) .nil).2 [] rfl
  cases ed
  have E1 : EvOk K z1 H1 env σ := E.mono F1
  refine ⟨fun i m H' => m = items.length - i ∧ i ≤ items.length ∧ ∃ (μ2 : List Addr) (S3 : Sto) (acc : List V) (accD : List PyData), StC K ⟨D :: z1.G, μ2, S3⟩ H' ∧ Sg z1 H1 ⟨D :: z1.G, μ2, S3⟩ H' ∧ (∀ g ∈ z1.G, H' g = H1 g) ∧
      H' D = some (.lst acc) ∧ DqAll K ((⟨D :: z1.G, μ2, S3⟩ : Zs).mask H') acc accD ∧
      lcLoop (fun x S1 => (bindT tg x (wipeE env own)).bind fun e1 => (gt e1 S1).bind fun t => if t.1 then (ge e1 t.2).bind fun y => (settle y.2 y.1).map fun z => (some z.1, z.2) else some (none, t.2)) (items.drop i) accD S3 = some (outs, S2),
    ⟨items.length, by simp, Nat.zero_le _, z1.μ, z1.S, [], [], CD, ⟨⟨[], by simp⟩, LD, fun _ _ h => h⟩, fun g hg => upd_ne (fun (w : g = D) => nG (w ▸ hg)), upd_same, .nil, by rw [s1]; exact e2⟩, ?_⟩
  rintro i m H' ⟨rfl, hi, μ2, S3, acc, accD, C2, F2, G2, hacc, Dacc, el⟩
  obtain ⟨w1, w2, w3⟩ := wk i _ H' C2 F2
  by_cases hlt : i < items.length
  · refine .inr ⟨w1 hlt, fun H'' => ∃ (μ2 : List Addr) (S3 : Sto) (acc : List V) (accD : List PyData), StC K ⟨D :: z1.G, μ2, S3⟩ H'' ∧ Sg z1 H1 ⟨D :: z1.G, μ2, S3⟩ H'' ∧ (∀ g ∈ z1.G, H'' g = H1 g) ∧
      H'' D = some (.lst acc) ∧ DqAll K ((⟨D :: z1.G, μ2, S3⟩ : Zs).mask H'') acc accD ∧
      lcLoop (fun x S1 => (bindT tg x (wipeE env own)).bind fun e1 => (gt e1 S1).bind fun t => if t.1 then (ge e1 t.2).bind fun y => (settle y.2 y.1).map fun z => (some z.1, z.2) else some (none, t.2)) (items.drop (i + 1)) accD S3 = some (outs, S2),
      fun H'' hN => ⟨items.length - (i + 1), by omega, rfl, hlt, hN⟩, fun x H3 hy => ?_⟩
    obtain ⟨dx, hdx, C3, F3, D3⟩ := w3 x H3 hlt hy
    have ed : items.drop i = dx :: items.drop (i + 1) := by
      rw [List.drop_eq_getElem_cons hlt]
      congr 1
      rw [List.getElem?_eq_getElem hlt] at hdx
      exact Option.some.inj hdx
    rw [ed] at el
    simp only [lcLoop] at el
    obtain ⟨⟨oy, S4⟩, e3, el⟩ := obind el
    obtain ⟨env1, e4, e3⟩ := obind e3
    obtain ⟨⟨b, S5⟩, e5, e3⟩ := obind e3
    have hG3 : ∀ g ∈ D :: z1.G, H3 g = H' g := F3.gh
    have F13 : Sg z1 H1 ⟨D :: z1.G, μ2, S3⟩ H3 := F2.trans F3.sg
    refine ⟨⟨D :: z1.G, μ2, S3⟩, wipeE env own, dx, env1, C3, (E1.monoG F13).wipe own, .inl D3, .inl D3.noCel, e4, fun σ2 E2 w => ⟨w own hown |>.trans ?_, ?_⟩⟩
    · -- wiped twice
      have : ∀ ks : List Nat, (∀ k ∈ ks, k ∈ own) → wipe (wipe σ own) ks = wipe σ own := by
        intro ks
        induction ks with
        | nil => intro _; rfl
        | cons k ks ih =>
          intro hk
          show (wipe (wipe σ own) ks).set k none = wipe σ own
          rw [ih fun k' h' => hk k' (List.mem_cons_of_mem _ h')]
          have : ∀ (vs : List Nat), k ∈ vs → (wipe σ vs).set k none = wipe σ vs := by
            intro vs
            induction vs with
            | nil => intro h; cases h
            | cons v vs ih2 =>
              intro h
              show ((wipe σ vs).set v none).set k none = (wipe σ vs).set v none
              by_cases e : k = v
              · subst e; rw [List.set_set]
              · rcases List.mem_cons.mp h with h | h
                · exact (e h).elim
                · rw [List.set_comm _ _ (fun q => e q.symm), ih2 h]
          exact this own (hk k (List.mem_cons_self ..))
      exact this own fun _ h => h
    · refine ⟨⟨D :: z1.G, μ2, S3⟩, env1, b, S5, C3, E2, e5, fun z4 H4 s4 C4 F4 => ?_⟩
      obtain ⟨G4, μ4, S4'⟩ := z4
      obtain rfl : G4 = D :: z1.G := F4.g
      have s4' : S4' = S5 := s4
      subst s4'
      have keep4 : H4 D = some (.lst acc) := ((F4.gh D (List.mem_cons_self ..)).trans (hG3 D (List.mem_cons_self ..))).trans hacc
      cases b with
      | false =>
        simp only [if_false, Bool.false_eq_true] at e3 ⊢
        cases e3
        exact ⟨μ4, _, acc, accD, C4, F13.trans F4.sg, fun g hg => ((F4.gh g (List.mem_cons_of_mem _ hg)).trans (hG3 g (List.mem_cons_of_mem _ hg))).trans (G2 g hg), keep4, (Dacc.mono F3.le).mono F4.le, el⟩
      | true =>
        simp only [if_true] at e3 ⊢
        obtain ⟨⟨dy, S6⟩, e6, e3⟩ := obind e3
        obtain ⟨⟨dz, S7⟩, e7, e3⟩ := omap e3
        cases e3
        refine ⟨⟨D :: z1.G, μ4, S4'⟩, env1, dy, S6, C4, E2.mono F4, e6, fun z5 y H5 s5 C5 F5 R5 _ => ?_⟩
        obtain ⟨z6, s6, m6, g6, C6, F6, D6⟩ := settle_ok C5 R5 (show settle z5.S dy = some (dz, S7) by rw [s5]; exact e7)
        obtain ⟨G6, μ6, S6'⟩ := z6
        obtain rfl : G6 = D :: z1.G := (F6.g.trans F5.g : _)
        have s6' : S6' = S7 := s6
        subst s6'
        simp only at el
        split at el
        · next hl =>
          have keep5 : H5 D = some (.lst acc) := (F5.gh D (List.mem_cons_self ..)).trans keep4
          have Dacc6 := (((Dacc.mono F3.le).mono F4.le).mono F5.le).mono F6.le
          refine ⟨acc, keep5, by rw [Dacc.len, ← line_eq]; exact hl, ?_⟩
          obtain ⟨C7, m7⟩ := C6.updG (List.mem_cons_self ..) (HO.lst (acc ++ [y]))
          refine ⟨μ6, S6', acc ++ [y], accD ++ [dz], C7, ?_, fun g hg => ?_, upd_same, ?_, el⟩
          · have t := ((F13.trans F4.sg).trans F5.sg).trans F6.sg
            exact ⟨t.ex, by rw [m7]; exact t.le, t.lk⟩
          · rw [upd_ne (fun (w : g = D) => nG (w ▸ hg))]
            exact (((F5.gh g (List.mem_cons_of_mem _ hg)).trans (F4.gh g (List.mem_cons_of_mem _ hg))).trans (hG3 g (List.mem_cons_of_mem _ hg))).trans (G2 g hg)
          · rw [m7]
            exact Dacc6.app (.cons D6 .nil)
        · cases el
  · have ei : i = items.length := by omega
    subst ei
    rw [List.drop_length] at el
    simp only [lcLoop, Option.some.injEq, Prod.mk.injEq] at el
    obtain ⟨rfl, rfl⟩ := el
    refine .inl ⟨w2 rfl, ?_⟩
    have hl2 : ∀ i, lk = some i → ∃ d, S3[i]? = some (1, d) := fun i hi => by
      obtain ⟨⟨d, hd⟩, _⟩ := hlk i hi
      exact ⟨d, F2.lk i d (by rw [s1]; exact hd)⟩
    obtain ⟨U1, U2, U3⟩ := unlock_ok C2 (lk := lk) hl2
    obtain ⟨V1, V2, V3⟩ := unlock_ok C2.unhide (lk := lk) hl2
    have LL : Le (z.mask H) ((⟨D :: z1.G, μ2, unlock lk S3⟩ : Zs).mask H') := by
      have : (⟨D :: z1.G, μ2, unlock lk S3⟩ : Zs).mask H' = (⟨D :: z1.G, μ2, S3⟩ : Zs).mask H' := U2
      rw [this]
      exact F1.le.trans F2.le
    have DF : DqAll K ((⟨D :: z1.G, μ2, unlock lk S3⟩ : Zs).mask H') acc accD := by
      have : (⟨D :: z1.G, μ2, unlock lk S3⟩ : Zs).mask H' = (⟨D :: z1.G, μ2, S3⟩ : Zs).mask H' := U2
      rw [this]; exact Dacc
    obtain ⟨ν, eν⟩ := F2.ex
    have eν : μ2 = z1.μ ++ ν := eν
    have hDmu : D ∉ μ2 := (C2.gm D (List.mem_cons_self ..)).1
    refine q ⟨z1.G, μ2, unlock lk S3⟩ (.ref D) H' rfl V1 ⟨F1.g, ?_, LL.trans show_le, fun g hg => ?_, fun j c h => ?_⟩ (.inl (.lst ?_ (DF.mono show_le))) fun _ ds eds => ?_
    · obtain ⟨ν1, e1'⟩ := F1.ex
      exact ⟨ν1 ++ ν, by show μ2 = _; rw [eν, e1', List.append_assoc]⟩
    · exact (G2 g (by rw [F1.g]; exact hg)).trans (F1.gh g hg)
    · have h1 := F1.lk j c h
      refine V3 j _ (fun e => ?_) (F2.lk j c h1)
      exact (hlk j e).2 c h
    · refine Zs.mask_some.mpr ⟨fun w => ?_, hacc⟩
      rcases w with w | ⟨j, c, w1, _, _⟩
      · exact nG w
      · exact hDmu (List.mem_of_getElem? w1)
    · cases eds
      exact ⟨D, acc, rfl, hacc, nG, hDmu, U1, DF, LL⟩
end
end TW
end
section
set_option Elab.async false
set_option linter.all false
set_option maxRecDepth 100000
set_option maxHeartbeats 2000000
/-! TwIter: what is walked. -/
namespace TW
open PySem PySem.Spec PyProof.Rows L2
section
variable {K : PySem.W.Frag} {σ : L2.St} {H : Hp} {R : It → Hp → Prop} {ge : Evf} {fe : Bool}

theorem wk_list {z0 : Zs} {H0 : Hp} {a : Addr} {ds : List PyData} (h : ∀ z H, StC K z H → Sg z0 H0 z H → ∃ xs, H a = some (.lst xs) ∧ DqAll K (z.mask H) xs ds) : Wk K z0 H0 (Itl K a) ds := by
  intro i z H C s
  obtain ⟨xs, h1, h2⟩ := h z H C s
  have hs : SqL K H a xs := SqL.of h1
  refine ⟨fun hi => ?_, fun hi => ⟨xs, hs, by rw [h2.len, hi]; exact Nat.le_refl _⟩, fun x H' hi hy => ?_⟩
  · obtain ⟨v, e1, _⟩ := h2.get (List.getElem?_eq_getElem hi)
    exact ⟨xs, v, hs, e1⟩
  · obtain ⟨rfl, hy⟩ := hy
    obtain ⟨v, e1, e2⟩ := h2.get (List.getElem?_eq_getElem hi)
    have := (hy xs hs).symm.trans e1
    cases this
    exact ⟨_, List.getElem?_eq_getElem hi, C, Sf.refl z _, e2⟩
theorem wk_tup {z0 : Zs} {H0 : Hp} {a : Addr} {ds : List PyData} (h : ∀ z H, StC K z H → Sg z0 H0 z H → ∃ xs, H a = some (.tup xs) ∧ DqAll K (z.mask H) xs ds) : Wk K z0 H0 (Itt K a) ds := by
  intro i z H C s
  obtain ⟨xs, h1, h2⟩ := h z H C s
  have hs : SqT K H a xs := SqT.of h1
  refine ⟨fun hi => ?_, fun hi => ⟨xs, hs, by rw [h2.len, hi]; exact Nat.le_refl _⟩, fun x H' hi hy => ?_⟩
  · obtain ⟨v, e1, _⟩ := h2.get (List.getElem?_eq_getElem hi)
    exact ⟨xs, v, hs, e1⟩
  · obtain ⟨rfl, hy⟩ := hy
    obtain ⟨v, e1, e2⟩ := h2.get (List.getElem?_eq_getElem hi)
    have := (hy xs hs).symm.trans e1
    cases this
    exact ⟨_, List.getElem?_eq_getElem hi, C, Sf.refl z _, e2⟩
theorem numbered_get : ∀ (ds : List PyData) (k i : Nat), (numbered k ds)[i]? = (ds[i]?).map fun d => .tuple [.int (k + i : Nat), d]
  | [], _, _ => by simp [numbered]
  | d :: ds, k, 0 => by simp [numbered]
  | d :: ds, k, i + 1 => by
    simp only [numbered, List.getElem?_cons_succ]
    rw [numbered_get ds (k + 1) i]
    congr 2
    funext d
    congr 3
    omega
theorem numbered_len : ∀ (ds : List PyData) (k : Nat), (numbered k ds).length = ds.length
  | [], _ => rfl
  | d :: ds, k => by simp [numbered, numbered_len ds (k + 1)]
theorem wk_enum {z0 : Zs} {H0 : Hp} {a : Addr} {ds : List PyData} (h : ∀ z H, StC K z H → Sg z0 H0 z H → ∃ xs, H a = some (.lst xs) ∧ DqAll K (z.mask H) xs ds) : Wk K z0 H0 (Ite K a) (numbered 0 ds) := by
  intro i z H C s
  obtain ⟨xs, h1, h2⟩ := h z H C s
  have hs : SqL K H a xs := SqL.of h1
  rw [numbered_len]
  refine ⟨fun hi => ?_, fun hi => ⟨xs, hs, by rw [h2.len, hi]; exact Nat.le_refl _⟩, fun x H' hi hy => ?_⟩
  · obtain ⟨v, e1, _⟩ := h2.get (List.getElem?_eq_getElem hi)
    exact ⟨xs, v, hs, e1⟩
  · obtain ⟨Tt, x', rfl, hT, rfl, hy⟩ := hy
    obtain ⟨v, e1, e2⟩ := h2.get (List.getElem?_eq_getElem hi)
    have := (hy xs hs).symm.trans e1
    cases this
    obtain ⟨C', F'⟩ := C.alloc hT (.tup [.int (i : Nat), x'])
    refine ⟨_, by rw [numbered_get, List.getElem?_eq_getElem hi]; rfl, C', F', ?_⟩
    have := Dq.newTup C (ds := [.int (0 + i : Nat), ds[i]]) (.cons (by rw [Nat.zero_add]; exact .int _) (.cons e2 .nil)) Tt hT
    exact this
theorem wk_range {z0 : Zs} {H0 : Hp} (lo : Int) (n : Nat) : Wk K z0 H0 (Itr lo n) (intRange lo n) := by
  intro i z H C s
  have hl : (intRange lo n).length = n := by simp [intRange]
  rw [hl]
  refine ⟨fun hi => hi, fun hi => hi ▸ Nat.le_refl _, fun x H' hi hy => ?_⟩
  obtain ⟨rfl, rfl⟩ := hy
  exact ⟨.int (lo + (i : Nat)), by simp [intRange, hi], C, Sf.refl z _, .int _⟩

/-- where a walk begins: the list or tuple, as it stands from then on -/
theorem begin_ok {z : Zs} {H : Hp} {v : V} {d : PyData} {ds : List PyData} {S' : Sto} {lk : Option Nat} (C : StC K z H) (r : Rv K z H v d) (e : beginD z.S d = some (ds, S', lk)) :
    ∃ z' a, z'.S = S' ∧ v = .ref a ∧ StC K z' H ∧ Sf z H z' H ∧ (∀ i, lk = some i → (∃ d, S'[i]? = some (1, d)) ∧ ∀ c, z.S[i]? ≠ some (1, c)) ∧
      (((∀ es, d ≠ .tuple es) ∧ (∃ xs, H a = some (.lst xs)) ∧ ∀ z2 H2, StC K z2 H2 → Sg z' H z2 H2 → ∃ xs, H2 a = some (.lst xs) ∧ DqAll K (z2.mask H2) xs ds) ∨
        ((∃ es, d = .tuple es) ∧ (∃ xs, H a = some (.tup xs)) ∧ ∀ z2 H2, StC K z2 H2 → Sg z' H z2 H2 → ∃ xs, H2 a = some (.tup xs) ∧ DqAll K (z2.mask H2) xs ds)) := by
  unfold beginD at e
  rcases r with r | ⟨i, a, rfl, ha, rfl⟩
  · rw [r.noCel] at e
    cases r with
    | @lst a xs _ h1 h2 =>
      simp only at e
      cases e
      refine ⟨z, a, rfl, rfl, C, Sf.refl z H, (fun _ h => by cases h), .inl ⟨(fun _ h => by cases h), ⟨xs, z.mask_le H _ _ h1⟩, fun z2 H2 C2 s => ⟨xs, z2.mask_le H2 _ _ (s.le _ _ h1), h2.mono s.le⟩⟩⟩
    | @tup a xs _ h1 h2 =>
      simp only at e
      cases e
      refine ⟨z, a, rfl, rfl, C, Sf.refl z H, (fun _ h => by cases h), .inr ⟨⟨_, rfl⟩, ⟨xs, z.mask_le H _ _ h1⟩, fun z2 H2 C2 s => ⟨xs, z2.mask_le H2 _ _ (s.le _ _ h1), h2.mono s.le⟩⟩⟩
    | _ => simp [scrD] at e
  · rw [celOf_cel] at e
    simp only at e
    have look : ∀ {z2 : Zs} {H2 : Hp} {m : Nat} {es : List PyData}, StC K z2 H2 → z2.μ[i]? = some a → z2.S[i]? = some (m, .list es) → ∃ xs, H2 a = some (.lst xs) ∧ DqAll K (z2.mask H2) xs es := fun {z2 H2 m es} C2 h1 h2 => by
      obtain ⟨xs, ds', q1, q2, q3⟩ := C2.cl i a _ h1 h2
      cases q1
      exact ⟨xs, q2, q3⟩
    have muG : ∀ {z' z2 : Zs} {H2 : Hp}, z'.μ = z.μ → Sg z' H z2 H2 → z2.μ[i]? = some a := fun {z' z2 H2} em s => by
      obtain ⟨ν, e⟩ := s.ex
      rw [e, em, List.getElem?_append_left (List.getElem?_eq_some_iff.mp ha).1]
      exact ha
    split at e
    · next es hc =>
      cases e
      have hi : i < z.S.length := (List.getElem?_eq_some_iff.mp hc).1
      obtain ⟨c1, c2, c3⟩ := C.turn hc (by decide) (show 1 ≠ 2 by decide)
      refine ⟨{ z with S := z.S.set i (1, .list ds) }, a, rfl, rfl, c1, ⟨rfl, ⟨[], by simp⟩, c2, fun _ _ => rfl, fun j c h => ?_⟩, fun j hj => ?_, .inl ⟨(fun _ h => by cases h), ?_, fun z2 H2 C2 s => ?_⟩⟩
      · refine c3 j _ (fun ej => ?_) h
        subst ej; rw [hc] at h; cases h
      · cases hj
        exact ⟨⟨.list ds, List.getElem?_set_self hi⟩, (fun c h => by rw [hc] at h; cases h)⟩
      · obtain ⟨xs, h1, _⟩ := look C ha hc; exact ⟨xs, h1⟩
      · exact look C2 (muG (z' := { z with S := z.S.set i (1, .list ds) }) rfl s) (s.lk i _ (List.getElem?_set_self hi))
    · next es hc =>
      cases e
      exact ⟨z, a, rfl, rfl, C, Sf.refl z H, (fun _ h => by cases h), .inl ⟨(fun _ h => by cases h), let ⟨xs, h1, _⟩ := look C ha hc; ⟨xs, h1⟩, fun z2 H2 C2 s => look C2 (muG rfl s) (s.lk i _ hc)⟩⟩
    · next es hc =>
      cases e
      have fr := Zs.frozen_free C hc ha
      cases fr with
      | @lst _ xs _ h1 h2 =>
        exact ⟨z, a, rfl, rfl, C, Sf.refl z H, (fun _ h => by cases h), .inl ⟨(fun _ h => by cases h), ⟨xs, z.mask_le H _ _ h1⟩, fun z2 H2 C2 s => ⟨xs, z2.mask_le H2 _ _ (s.le _ _ h1), h2.mono s.le⟩⟩⟩
    · cases e
/-- a plain walk -/
theorem plain_step (h : tI K (fun env S => (ge env S).bind fun r => beginD r.2 r.1) σ H R) : iList K (tE K ge fe) σ H R ∨ iTup K (tE K ge fe) σ H R := by
  obtain ⟨z, env, ds, S', lk, C, E, e, q⟩ := h
  obtain ⟨⟨d, S1⟩, e1, e⟩ := obind e
  by_cases ht : ∃ es, d = .tuple es
  · right
    refine ⟨z, env, d, S1, C, E, e1, fun z1 v1 H1 s1 C1 F1 R1 _ => ?_⟩
    obtain ⟨z2, a, s2, rfl, C2, F2, L2, w⟩ := begin_ok C1 R1 (by rw [s1]; exact e)
    rcases w with ⟨w, _⟩ | ⟨_, ⟨xs, hx⟩, w⟩
    · obtain ⟨es, rfl⟩ := ht; exact (w es rfl).elim
    · exact ⟨a, rfl, ⟨xs, SqT.of hx⟩, q z2 _ H1 s2 C2 (F1.trans F2) (wk_tup w) fun i hi => ⟨(L2 i hi).1, fun c hc => (L2 i hi).2 c (F1.lk i c hc)⟩⟩
  · left
    refine ⟨z, env, d, S1, C, E, e1, fun z1 v1 H1 s1 C1 F1 R1 _ => ?_⟩
    obtain ⟨z2, a, s2, rfl, C2, F2, L2, w⟩ := begin_ok C1 R1 (by rw [s1]; exact e)
    rcases w with ⟨_, ⟨xs, hx⟩, w⟩ | ⟨w, _⟩
    · exact ⟨a, rfl, ⟨xs, SqL.of hx⟩, q z2 _ H1 s2 C2 (F1.trans F2) (wk_list w) fun i hi => ⟨(L2 i hi).1, fun c hc => (L2 i hi).2 c (F1.lk i c hc)⟩⟩
    · exact (ht w).elim
theorem enum_step (h : tI K (fun env S => (ge env S).bind fun r => match r.1 with
      | .tuple _ => none
      | d => (beginD r.2 d).map fun q => (numbered 0 q.1, q.2.1, q.2.2)) σ H R) : iEnum K (tCons (tE K ge fe) tNil) σ H R := by
  obtain ⟨z, env, ds, S', lk, C, E, e, q⟩ := h
  obtain ⟨⟨d, S1⟩, e1, e⟩ := obind e
  have : (∀ es, d ≠ .tuple es) ∧ ((beginD S1 d).map fun q => (numbered 0 q.1, q.2.1, q.2.2)) = some (ds, S', lk) := by
    simp only at e
    split at e
    · cases e
    · next hn => exact ⟨fun es he => hn es he, e⟩
  obtain ⟨hn, e⟩ := this
  obtain ⟨⟨ds0, S2, l2⟩, e2, e⟩ := omap e
  cases e
  refine ⟨z, env, d, S1, C, E, e1, fun z1 v1 H1 s1 C1 F1 R1 _ => ?_⟩
  obtain ⟨z2, a, s2, rfl, C2, F2, L2, w⟩ := begin_ok C1 R1 (by rw [s1]; exact e2)
  rcases w with ⟨_, ⟨xs, hx⟩, w⟩ | ⟨⟨es, w⟩, _⟩
  · exact ⟨a, xs, rfl, SqL.of hx, q z2 _ H1 s2 C2 (F1.trans F2) (wk_enum w) fun i hi => ⟨(L2 i hi).1, fun c hc => (L2 i hi).2 c (F1.lk i c hc)⟩⟩
  · exact (hn es w).elim
variable {gs : Evn → Sto → Option (List PyData × Sto)}
theorem rng_inv {ds : List PyData} {r : List PyData} (h : rngD ds = some r) : (∃ j : Int, ds = [.int j] ∧ (-(2 ^ 62) ≤ j ∧ j < 2 ^ 62) ∧ r = intRange 0 j.toNat) ∨
    ∃ i j : Int, ds = [.int i, .int j] ∧ (-(2 ^ 62) ≤ i ∧ i < 2 ^ 62 ∧ -(2 ^ 62) ≤ j ∧ j < 2 ^ 62) ∧ r = intRange i (j - i).toNat := by
  unfold rngD at h
  split at h
  · split at h
    · next hk => cases h; simp only [Bool.and_eq_true, decide_eq_true_eq] at hk; exact .inl ⟨_, rfl, hk, rfl⟩
    · cases h
  · split at h
    · next hk => cases h; simp only [Bool.and_eq_true, decide_eq_true_eq] at hk; exact .inr ⟨_, _, rfl, ⟨hk.1.1.1, hk.1.1.2, hk.1.2, hk.2⟩, rfl⟩
    · cases h
  · cases h
theorem RvL.one {z : Zs} {H : Hp} {vs : List V} {i : Int} (h : RvL K z H vs [.int i]) : vs = [.int i] := by
  cases h with
  | cons a b => cases b; rw [a.int]
theorem RvL.two {z : Zs} {H : Hp} {vs : List V} {i j : Int} (h : RvL K z H vs [.int i, .int j]) : vs = [.int i, .int j] := by
  cases h with
  | cons a b =>
    cases b with
    | cons a2 b2 => cases b2; rw [a.int, a2.int]
theorem rng_step (n : Nat) (hlen : ∀ env S ds S', gs env S = some (ds, S') → ds.length = n) (h : tI K (fun env S => (gs env S).bind fun r => (rngD r.1).map fun ds => (ds, r.2, none)) σ H R) :
    (n = 1 → iRng1 (tA K gs) σ H R) ∧ (n = 2 → iRng2 (tA K gs) σ H R) := by
  obtain ⟨z, env, ds, S', lk, C, E, e, q⟩ := h
  obtain ⟨⟨d, S1⟩, e1, e⟩ := obind e
  obtain ⟨r, e2, e⟩ := omap e
  cases e
  have hl := hlen _ _ _ _ e1
  rcases rng_inv e2 with ⟨j, rfl, hb, rfl⟩ | ⟨i, j, rfl, hb, rfl⟩
  · refine ⟨fun _ => ⟨z, env, _, S1, C, E, e1, fun z1 vs H1 s1 C1 F1 R1 => ⟨j, R1.one, hb.1, hb.2, q z1 _ H1 s1 C1 F1 (wk_range 0 _) (fun _ h => by cases h)⟩⟩, fun h => ?_⟩
    rw [← hl] at h; cases h
  · refine ⟨fun h => ?_, fun _ => ⟨z, env, _, S1, C, E, e1, fun z1 vs H1 s1 C1 F1 R1 => ⟨i, j, R1.two, hb, q z1 _ H1 s1 C1 F1 (wk_range i _) (fun _ h => by cases h)⟩⟩⟩
    rw [← hl] at h; cases h
end
end TW
end
section
set_option Elab.async false
set_option linter.all false
set_option maxRecDepth 100000
set_option maxHeartbeats 2000000
/-! TwStep: built-in calls, methods, subscripts, slices as readings. -/
namespace TW
open PySem PySem.Spec PyProof.Rows L2
section
variable {K : PySem.W.Frag} {σ : L2.St} {H : Hp} {Q : VK} {fr fa fb : Bool} {ga gb : Evf} {gs : Evn → Sto → Option (List PyData × Sto)}
theorem RvL.look {z : Zs} {H : Hp} (C : StC K z H) : ∀ {vs : List V} {ds : List PyData}, RvL K z H vs ds → PkL K z H vs (ds.map (peek z.S))
  | _, _, .nil => .nil
  | _, _, .cons a b => .cons (a.look C) (RvL.look C b)
theorem bi_step {b : Bi} (h : tE K (fun env S => (gs env S).bind fun r => (biD b (r.1.map (peek r.2))).map fun d => (d, r.2)) fr σ H Q) : tCB (rBi K b) (tA K gs) σ H Q := by
  obtain ⟨z, env, d, S', C, E, e, q⟩ := h
  obtain ⟨r1, e1, e⟩ := obind e
  obtain ⟨d', e2, e⟩ := omap e
  cases e
  refine ⟨z, env, r1.1, r1.2, C, E, e1, fun z1 vs H1 s1 C1 F1 R1 => ⟨z1, _, d, C1, R1.look C1, by rw [s1]; exact e2, fun v H' C' F' D' f' => ?_⟩⟩
  exact q z1 v H' s1 C' (F1.trans F') (.inl D') fun _ ds e => (f' ds e).before F1 ds e
/-- the one argument of a list of one -/
theorem one_step {k : PyData × Sto → Option (PyData × Sto)} {rest : Evn → Sto → Option (List PyData × Sto)} (hr : ∀ env S, rest env S = some ([], S))
    (h : tE K (fun env S => ((ga env S).bind fun r => (rest env r.2).map fun q => (r.1 :: q.1, q.2)).bind fun r => match r.1 with | [d] => k (d, r.2) | _ => none) fr σ H Q) : tE K (fun env S => (ga env S).bind k) fr σ H Q := by
  obtain ⟨z, env, d, S', C, E, e, q⟩ := h
  refine ⟨z, env, d, S', C, E, ?_, q⟩
  obtain ⟨r1, e1, e⟩ := obind e
  obtain ⟨r2, e2, e1⟩ := obind e1
  obtain ⟨r3, e3, e1⟩ := omap e1
  rw [hr] at e3
  cases e3
  cases e1
  show (ga env z.S).bind k = _
  rw [e2]
  exact e
theorem isk_step {b : Bi} (hb : ∀ ds, biD b ds = one (fun d => (tyD d).bind fun t => (kindB b t).map .bool) ds) {rest : Evn → Sto → Option (List PyData × Sto)} (hr : ∀ env S, rest env S = some ([], S))
    (h : tE K (fun env S => ((ga env S).bind fun r => (rest env r.2).map fun q => (r.1 :: q.1, q.2)).bind fun r => (biD b (r.1.map (peek r.2))).map fun d => (d, r.2)) fr σ H Q) :
    tE K ga fa σ H fun x H1 => ∃ z d t r, StC K z H1 ∧ Pk K z H1 x d ∧ tyD d = some t ∧ kindB b t = some r ∧ ∀ H2, StC K z H2 → Sf z H1 z H2 → Q (.bl r) H2 := by
  obtain ⟨z, env, d, S', C, E, e, q⟩ := h
  obtain ⟨r1, e1, e⟩ := obind e
  obtain ⟨r2, e2, e1⟩ := obind e1
  obtain ⟨r3, e3, e1⟩ := omap e1
  rw [hr] at e3
  cases e3
  cases e1
  obtain ⟨d', e4, e⟩ := omap e
  cases e
  rw [hb] at e4
  obtain ⟨t, e5, e6⟩ := obind (show ((tyD (peek r2.2 r2.1)).bind fun t => (kindB b t).map PyData.bool) = some d from e4)
  obtain ⟨k, e7, rfl⟩ := omap e6
  refine ⟨z, env, r2.1, r2.2, C, E, e2, fun z1 v1 H1 s1 C1 F1 R1 _ => ⟨z1, _, t, k, C1, R1.look C1, by rw [s1]; exact e5, e7, fun H2 C2 F2 => ?_⟩⟩
  exact q z1 _ H2 s1 C2 (F1.trans F2) (.inl (.bl k)) fun _ ds e => by cases e
theorem lenSet_step {rest : Evn → Sto → Option (List PyData × Sto)} (hr : ∀ env S, rest env S = some ([], S))
    (h : tE K (fun env S => ((ga env S).bind fun r => (rest env r.2).map fun q => (r.1 :: q.1, q.2)).bind fun r => (biD .lenSet (r.1.map (peek r.2))).map fun d => (d, r.2)) fr σ H Q) : tLenSet K (tE K ga fa) σ H Q := by
  obtain ⟨z, env, d, S', C, E, e, q⟩ := h
  obtain ⟨r1, e1, e⟩ := obind e
  obtain ⟨r2, e2, e1⟩ := obind e1
  obtain ⟨r3, e3, e1⟩ := omap e1
  rw [hr] at e3
  cases e3
  cases e1
  obtain ⟨d', e4, e⟩ := omap e
  cases e
  refine ⟨z, env, r2.1, r2.2, C, E, e2, fun z1 v1 H1 s1 C1 F1 R1 _ => ?_⟩
  have e4 : lenSetD (peek z1.S r2.1) = some d := by rw [s1]; exact e4
  have P := R1.look C1
  unfold lenSetD at e4
  split at e4
  · next ds he =>
    obtain ⟨ns, e5, e6⟩ := obind e4
    split at e6
    · next hl =>
      cases e6
      rw [he] at P
      obtain ⟨a, xs, rfl, h1, h2⟩ := P.list
      obtain rfl := h2.ints e5
      exact ⟨a, ns, rfl, SqL.of h1, hl, q z1 _ H1 s1 C1 F1 (.inl (.int _)) fun _ ds e => by cases e⟩
    · cases e6
  · cases e4
theorem idx_step (h : tE K (fun env S => (ga env S).bind fun r => (gb env r.2).bind fun q => (idxD (peek q.2 r.1) q.1).map fun d => (d, q.2)) false σ H Q) : tOp (rIxD K) (tE K ga fa) (tE K gb fb) σ H Q :=
  step2 h (fun _ _ _ _ => rfl) fun z v w d e H S' d' C R1 R2 hk q => by
    obtain ⟨x, hx, ex⟩ := omap hk
    cases ex
    have : ∃ i, e = .int i := by
      simp only at hx
      unfold idxD at hx
      split at hx <;> first | exact ⟨_, rfl⟩ | (cases hx; done) | skip
    obtain ⟨i, rfl⟩ := this
    exact ⟨z, _, i, d', C, R1.look C, R2.int, hx, fun v' D' => q z v' H rfl C (Sf.refl z H) (.inl D') fun h => by cases h⟩
theorem bound_inv {o : Option PyData} {l : Option Int} (h : boundD o = some l) : o = l.map PyData.int := by
  unfold boundD at h
  split at h
  · cases h; rfl
  · cases h; rfl
  · cases h
variable {gl gh : Evn → Sto → Option (Option PyData × Sto)}
theorem sl_step (h : tE K (fun env S => (ga env S).bind fun r => (gl env r.2).bind fun q => (gh env q.2).bind fun u => (slD (peek u.2 r.1) q.1 u.1).map fun d => (d, u.2)) true σ H Q) : tSl (rSlD K) (tE K ga fa) (tO K gl) (tO K gh) σ H Q := by
  obtain ⟨z, env, d, S', C, E, e, q⟩ := h
  obtain ⟨r1, e1, e⟩ := obind e
  obtain ⟨⟨o1, S1⟩, e2, e⟩ := obind e
  obtain ⟨⟨o2, S2⟩, e3, e⟩ := obind e
  obtain ⟨d', e4, e⟩ := omap e
  cases e
  have bd : ∃ l u, o1 = Option.map PyData.int l ∧ o2 = Option.map PyData.int u := by
    simp only at e4
    unfold slD at e4
    split at e4 <;> first | (next h1 h2 => exact ⟨_, _, bound_inv h1, bound_inv h2⟩) | cases e4
  obtain ⟨l, u, rfl, rfl⟩ := bd
  refine ⟨z, env, r1.1, r1.2, C, E, e1, fun z1 v1 H1 s1 C1 F1 R1 _ => ⟨z1, env, l, S1, C1, E.mono F1, by rw [s1]; exact e2, fun z2 H2 s2 C2 F2 => ⟨z2, env, u, S2, C2, (E.mono F1).mono F2, by rw [s2]; exact e3, fun z3 H3 s3 C3 F3 => ?_⟩⟩⟩
  refine ⟨z3, _, d, C3, ((R1.mono F2).mono F3).look C3, by rw [s3]; exact e4, fun v H' C' F' D' f' => ?_⟩
  exact q z3 v H' s3 C' (F1.trans (F2.trans (F3.trans F'))) (.inl D') fun _ ds e => (f' ds e).before (F1.trans (F2.trans F3)) ds e

/-! ### methods -/
theorem appD_inv {S : Sto} {x : PyData} {ds : List PyData} {r : PyData × Sto} (h : appD S x ds = some r) : ∃ i y, celOf x = some i ∧ ds = [y] ∧ ((settle S y).bind fun r => match r.2[i]? with
      | some (0, .list xs) => if xs.length < line then some (PyData.none, r.2.set i (0, .list (xs ++ [r.1]))) else none
      | _ => none) = some r := by
  unfold appD at h
  split at h
  · split at h
    · next hi => exact ⟨_, _, hi, rfl, h⟩
    · cases h
  · cases h
theorem popD_inv {S : Sto} {x : PyData} {d : PyData} {S' : Sto} (h : popD S x [] = some (d, S')) : ∃ i xs, celOf x = some i ∧ S[i]? = some (0, .list xs) ∧ xs[xs.length - 1]? = some d ∧ S' = S.set i (0, .list xs.dropLast) := by
  simp only [popD] at h
  split at h
  · next hi =>
    split at h
    · next hs =>
      obtain ⟨y, hy, e⟩ := omap h
      cases e
      exact ⟨_, _, hi, hs, hy, rfl⟩
    · cases h
  · cases h
theorem popAtD_inv {S : Sto} {x : PyData} {ds : List PyData} {d : PyData} {S' : Sto} (h : popAtD S x ds = some (d, S')) : ∃ i j xs, celOf x = some i ∧ ds = [PyData.int j] ∧ S[i]? = some (0, .list xs) ∧ 0 ≤ j ∧ j < xs.length ∧ j < 2 ^ 62 ∧
    xs[j.toNat]? = some d ∧ S' = S.set i (0, .list (xs.eraseIdx j.toNat)) := by
  unfold popAtD at h
  split at h
  · split at h
    · next hi =>
      split at h
      · next hs =>
        split at h
        · next hb =>
          simp only [Bool.and_eq_true, decide_eq_true_eq] at hb
          obtain ⟨y, hy, e⟩ := omap h
          cases e
          exact ⟨_, _, _, hi, rfl, hs, hb.1.1, hb.1.2, hb.2, hy, rfl⟩
        · cases h
      · cases h
    · cases h
  · cases h
theorem indexD_inv {S : Sto} {x : PyData} {ds : List PyData} {d : PyData} {S' : Sto} (h : indexD S x ds = some (d, S')) : ∃ y xs j, ds = [y] ∧ peek S x = .list xs ∧ SeqAt.shaped (.list xs) = true ∧ SeqAt.shaped y = true ∧ findD y xs = some j ∧
    d = .int (j : Nat) ∧ S' = S := by
  unfold indexD at h
  split at h
  · split at h
    · next hs =>
      split at h
      · next hb =>
        simp only [Bool.and_eq_true] at hb
        obtain ⟨j, hj, e⟩ := omap h
        cases e
        exact ⟨_, _, _, rfl, hs, hb.1, hb.2, hj, rfl, rfl⟩
      · cases h
    · cases h
  · cases h
theorem bitsD_inv {S : Sto} {x : PyData} {d : PyData} {S' : Sto} (h : bitsD S x [] = some (d, S')) : ∃ i, x = .int i ∧ d = .int (Builtin.Int.intBits i : Nat) ∧ S' = S := by
  simp only [bitsD] at h
  split at h
  · cases h; exact ⟨_, rfl, rfl, rfl⟩
  · cases h
theorem tyl {z : Zs} {H : Hp} {v : V} {ds : List PyData} (h : Pk K z H v (.list ds)) : tyV K "list" v H := by
  obtain ⟨a, xs, rfl, h1, _⟩ := h.list
  exact .inl ⟨rfl, xs, SqL.of h1⟩
theorem cel_list {z : Zs} {H : Hp} {v : V} {d : PyData} {i : Nat} (C : StC K z H) (R : Rv K z H v d) (h : celOf d = some i) : ∃ a c xs ds, v = .ref a ∧ z.μ[i]? = some a ∧ z.S[i]? = some (c, .list ds) ∧ H a = some (.lst xs) ∧ DqAll K (z.mask H) xs ds := by
  rcases R with R | ⟨j, a, rfl, ha, rfl⟩
  · rw [R.noCel] at h; cases h
  · rw [celOf_cel] at h
    cases h
    have hi : i < z.S.length := by rw [← C.len]; exact (List.getElem?_eq_some_iff.mp ha).1
    obtain ⟨xs, ds, h1, h2, h3⟩ := C.cl i a _ ha (List.getElem?_eq_getElem hi)
    refine ⟨a, (z.S[i]).1, xs, ds, rfl, ha, ?_, h2, h3⟩
    rw [List.getElem?_eq_getElem hi]
    congr 1
    exact Prod.ext rfl h1
theorem app_step (h : tE K (fun env S => (ga env S).bind fun r => (gs env r.2).bind fun q => mtD q.2 .append r.1 q.1) false σ H Q) : tBM K "list" rAppend (tE K ga fa) (tA K gs) σ H Q := by
  obtain ⟨z, env, d, S', C, E, e, q⟩ := h
  obtain ⟨⟨d1, S1⟩, e1, e⟩ := obind e
  obtain ⟨⟨ds, S2⟩, e2, e⟩ := obind e
  obtain ⟨i, y, hi, rfl, e⟩ := appD_inv e
  obtain ⟨⟨y', S3⟩, e3, e⟩ := obind e
  refine ⟨z, env, d1, S1, C, E, e1, fun z1 v1 H1 s1 C1 F1 R1 _ => ?_⟩
  obtain ⟨a, c, xs1, ds1, rfl, ha, hs, hx, _⟩ := cel_list C1 R1 hi
  refine ⟨.inl ⟨rfl, xs1, SqL.of hx⟩, z1, env, [y], S2, C1, E.mono F1, by rw [s1]; exact e2, fun z2 vs H2 s2 C2 F2 R2 => ?_⟩
  cases R2 with
  | cons Ry Rn =>
    cases Rn
    obtain ⟨z3, s3, m3, g3, C3, F3, D3⟩ := settle_ok C2 Ry (show settle z2.S y = some (y', S3) by rw [s2]; exact e3)
    subst s3
    split at e
    · next xs hc =>
      split at e
      · next hl =>
        cases e
        have ha3 : z3.μ[i]? = some a := by rw [m3]; exact F2.mu ha
        obtain ⟨xs', ds', q1, q2, q3⟩ := C3.cl i a _ ha3 hc
        cases q1
        obtain ⟨C4, F4⟩ := C3.put (c' := (0, .list (xs ++ [y']))) (ys := xs' ++ [_]) hc rfl ha3 (show (0:Nat) ≠ 2 by decide) (fun h => by cases h) rfl (q3.app (.cons D3 .nil))
        refine ⟨a, xs', _, rfl, rfl, q2, by rw [q3.len, ← line_eq]; exact hl, ?_⟩
        exact q _ _ _ rfl C4 (F1.trans (F2.trans (F3.trans F4))) (.inl .non) fun h => by cases h
      · cases e
    · cases e
theorem pop_step (h : tE K (fun env S => (ga env S).bind fun r => (some (([] : List PyData), r.2)).bind fun q => mtD q.2 .pop r.1 q.1) false σ H Q) : tBM0 K "list" rPop (tE K ga fa) σ H Q := by
  obtain ⟨z, env, d, S', C, E, e, q⟩ := h
  obtain ⟨⟨d1, S1⟩, e1, e⟩ := obind e
  obtain ⟨i, xs, hi, hs, hy, rfl⟩ := popD_inv e
  refine ⟨z, env, d1, S1, C, E, e1, fun z1 v1 H1 s1 C1 F1 R1 _ => ?_⟩
  obtain ⟨a, c, xs1, ds1, rfl, ha, hs1, hx, Dx⟩ := cel_list C1 R1 hi
  subst s1
  rw [hs] at hs1
  cases hs1
  obtain ⟨v, hv, Dv⟩ := Dx.get hy
  obtain ⟨C4, F4⟩ := C1.put (c' := (0, .list xs.dropLast)) (ys := xs1.dropLast) hs rfl ha (show (0:Nat) ≠ 2 by decide) (fun h => by cases h) rfl Dx.dropLast
  refine ⟨.inl ⟨rfl, xs1, SqL.of hx⟩, a, xs1, v, rfl, rfl, hx, by rw [Dx.len]; exact hv, ?_⟩
  exact q _ _ _ rfl C4 (F1.trans F4) (.inl (Dv.mono F4.le)) fun h => by cases h
theorem popAt_step (h : tE K (fun env S => (ga env S).bind fun r => (gs env r.2).bind fun q => mtD q.2 .popAt r.1 q.1) false σ H Q) : tBM K "list" rPopAt (tE K ga fa) (tA K gs) σ H Q := by
  obtain ⟨z, env, d, S', C, E, e, q⟩ := h
  obtain ⟨⟨d1, S1⟩, e1, e⟩ := obind e
  obtain ⟨⟨ds, S2⟩, e2, e⟩ := obind e
  obtain ⟨i, j, xs, hi, rfl, hs, hj0, hj1, hj2, hy, rfl⟩ := popAtD_inv e
  refine ⟨z, env, d1, S1, C, E, e1, fun z1 v1 H1 s1 C1 F1 R1 _ => ?_⟩
  obtain ⟨a, c, xs1, ds1, rfl, ha, _, hx, _⟩ := cel_list C1 R1 hi
  refine ⟨.inl ⟨rfl, xs1, SqL.of hx⟩, z1, env, _, S2, C1, E.mono F1, by rw [s1]; exact e2, fun z2 vs H2 s2 C2 F2 R2 => ?_⟩
  rw [R2.one]
  subst s2
  have ha2 := F2.mu ha
  obtain ⟨xs', ds', q1, q2, q3⟩ := C2.cl i a _ ha2 hs
  cases q1
  obtain ⟨v, hv, Dv⟩ := q3.get hy
  obtain ⟨C4, F4⟩ := C2.put (c' := (0, .list (xs.eraseIdx j.toNat))) (ys := xs'.eraseIdx j.toNat) hs rfl ha2 (show (0:Nat) ≠ 2 by decide) (fun h => by cases h) rfl (q3.erase _)
  have hn : ixN xs'.length j = some j.toNat := by
    unfold ixN
    rw [if_pos hj0, if_pos (by rw [q3.len]; exact hj1)]
  refine ⟨a, xs', j, j.toNat, v, rfl, rfl, q2, by omega, by omega, (ixN_seq hn).1, hv, ?_⟩
  exact q _ _ _ rfl C4 (F1.trans (F2.trans F4)) (.inl (Dv.mono F4.le)) fun h => by cases h
theorem find_spec {d : PyData} : ∀ {ds : List PyData} {j : Nat}, findD d ds = some j → (∃ z, ds[j]? = some z ∧ PyData.eqv z d = true) ∧ ∀ (m : Nat) (z' : PyData), m < j → ds[m]? = some z' → PyData.eqv z' d = false
  | [], j, h => by simp [findD] at h
  | x :: ds, j, h => by
    simp only [findD] at h
    split at h
    · next hx => cases h; exact ⟨⟨x, rfl, hx⟩, fun m z' hm _ => absurd hm (by omega)⟩
    · next hx =>
      obtain ⟨j', h1, rfl⟩ := omap h
      obtain ⟨⟨z, h2, h3⟩, h4⟩ := find_spec h1
      refine ⟨⟨z, by simpa using h2, h3⟩, fun m z' hm hz => ?_⟩
      cases m with
      | zero => simp at hz; subst hz; simpa using hx
      | succ m => exact h4 m z' (by omega) (by simpa using hz)
theorem index_step (h : tE K (fun env S => (ga env S).bind fun r => (gs env r.2).bind fun q => mtD q.2 .index r.1 q.1) false σ H Q) : tBM K "list" (rIndexD K) (tE K ga fa) (tA K gs) σ H Q := by
  obtain ⟨z, env, d, S', C, E, e, q⟩ := h
  obtain ⟨⟨d1, S1⟩, e1, e⟩ := obind e
  obtain ⟨⟨ds, S2⟩, e2, e⟩ := obind e
  obtain ⟨y, xs, j, rfl, hx, h1, h2, hj, rfl, eS⟩ := indexD_inv e
  have eS : S' = S2 := eS
  subst eS
  refine ⟨z, env, d1, S1, C, E, e1, fun z1 v1 H1 s1 C1 F1 R1 _ => ⟨?_, z1, env, _, S', C1, E.mono F1, by rw [s1]; exact e2, fun z2 vs H2 s2 C2 F2 R2 => ?_⟩⟩
  · cases hc : celOf d1 with
    | some i =>
      obtain ⟨a, c, xs1, ds1, rfl, ha, _, hx, _⟩ := cel_list C1 R1 hc
      exact .inl ⟨rfl, xs1, SqL.of hx⟩
    | none =>
      have : d1 = .list xs := by unfold peek at hx; rw [hc] at hx; exact hx
      subst this
      exact tyl (z := z1) (.inl (R1.data hc))
  · cases R2 with
    | cons Ry Rn =>
      cases Rn
      subst s2
      have P := (R1.mono F2).look C2
      rw [hx] at P
      obtain ⟨a, ys, rfl, hh, Da⟩ := P.list
      have hcy : celOf y = none := by
        cases hc : celOf y with
        | none => rfl
        | some i => rw [of_celOf hc] at h2; simp [cel, SeqAt.shaped, PyData.canLay0] at h2
      have Dy := (Ry.data hcy).mono (z2.mask_le H2)
      obtain ⟨⟨w, hw, hwe⟩, hno⟩ := find_spec hj
      refine ⟨a, _, y, xs, j, w, rfl, rfl, ?_, Dy.dp (SeqAt.canLay_of_shaped h2), h1, h2, hw, hwe, hno, q z2 _ H2 rfl C2 (F1.trans F2) (.inl (.int _)) fun h => by cases h⟩
      exact Dq.dp (.lst hh (Da.mono (z2.mask_le H2))) (SeqAt.canLay_of_shaped h1)
theorem bits_step (h : tE K (fun env S => (ga env S).bind fun r => (some (([] : List PyData), r.2)).bind fun q => mtD q.2 .bitLength r.1 q.1) false σ H Q) : tBits (tE K ga fa) σ H Q := by
  obtain ⟨z, env, d, S', C, E, e, q⟩ := h
  obtain ⟨⟨d1, S1⟩, e1, e⟩ := obind e
  obtain ⟨i, e3, rfl, eS⟩ := bitsD_inv e
  have e3 : d1 = .int i := e3
  have eS : S' = S1 := eS
  subst e3
  subst eS
  exact ⟨z, env, _, S', C, E, e1, fun z1 v1 H1 s1 C1 F1 R1 _ => ⟨i, R1.int, q z1 _ H1 s1 C1 F1 (.inl (.int _)) fun h => by cases h⟩⟩
end
end TW
end
section
set_option Elab.async false
set_option linter.all false
set_option maxRecDepth 100000
set_option maxHeartbeats 2000000
/-! TwMain: the evaluator is right for every checked expression. -/
namespace TW
open PySem PySem.Spec PyProof.Rows L2

section
variable (c : Ck) (tb : Tb) (F : Clf)
def SE (t : T) : Prop := ∀ X sc x, Gd X c sc tb F → chkE c sc t x = true → PE X x (tE X.K (evE tb F t) (frE tb t))
def ST (t : T) : Prop := ∀ X sc x, Gd X c sc tb F → chkE c sc t x = true → PT X x (tT X.K (evE tb F t))
structure SAll (t : T) : Prop where
  fe : SE c tb F t
  ft : ST c tb F t
  fw : ∀ X sc op xs pos, Gd X c sc tb F → chkE c sc t (.BoolOp op xs pos) = true → PW X (.BoolOp op xs pos) (tT X.K (evE tb F t))
  fl : ∀ X sc xs, Gd X c sc tb F → chkL c sc t xs = true → PA X xs (tA X.K (evL tb F t))
  fk : ∀ X sc kws, Gd X c sc tb F → chkL c sc t (kws.map fun k : Keyword => k.value) = true → PK X kws (tA X.K (evL tb F t))
  fo : ∀ X sc x, Gd X c sc tb F → chkO c sc t x = true → PO X x (tO X.K (evO tb F t))
  fs : ∀ X sc xs, Gd X c sc tb F → chkT c sc t xs = true → PTs X xs (tTs X.K (evT tb F t))
  fi : ∀ X sc tg x, Gd X c sc tb F → chkI c sc t tg x = true → PI X tg x (tI X.K (evI tb F t))
  hd : ∀ a b, t = .cons a b → SE c tb F a ∧ ∀ a' b', b = .cons a' b' → SE c tb F a'
end
def listT : T → Bool
  | .nil | .cons .. | .rng _ | .enumr _ => true
  | _ => false
def specialB : Expr → Bool
  | .UnaryOp .Not _ _ | .BoolOp .. | .IfExp .. | .Compare .. => true
  | _ => false
theorem gen_truth {x : Expr} (h : specialB x = false) (env : Env) (whole : Sem Value) : isTrue x env whole = (do let v ← whole; standAt x.pos; holding [v] (truthy v)) := by
  cases x with
  | UnaryOp op e p => cases op <;> first | rfl | cases h
  | BoolOp _ _ _ => cases h
  | IfExp _ _ _ _ => cases h
  | Compare _ _ _ _ => cases h
  | _ => rfl
section
variable {c : Ck} {tb : Tb} {F : Clf}
theorem pt_of {X : Cx} {x : Expr} {g : Evf} {fr : Bool} (h : PE X x (tE X.K g fr)) (hs : specialB x = false) : PT X x (tT X.K g) :=
  ⟨fun pins s σ H Q I hq => (pt_val h (fun w => gen_truth hs X.env w)).run pins s σ H Q I (tT_tE hq)⟩
theorem SAll.mk' {t : T} (hn : listT t = false) (e : SE c tb F t) (ht : ST c tb F t)
    (w : ∀ X sc op xs pos, Gd X c sc tb F → chkE c sc t (.BoolOp op xs pos) = true → PW X (.BoolOp op xs pos) (tT X.K (evE tb F t))) : SAll c tb F t := by
  refine ⟨e, ht, w, fun X sc xs G h => ?_, fun X sc xs G h => ?_, fun X sc x G h => ?_, fun X sc xs G h => ?_, fun X sc tg x G h => ?_, fun a b h => ?_⟩
  · cases t <;> first | (simp [listT] at hn; done) | (simp [chkL] at h; done)
  · cases t <;> first | (simp [listT] at hn; done) | (simp [chkL] at h; done)
  · cases t <;> first | (simp [listT] at hn; done) | (simp [chkO] at h; done)
  · cases t <;> first | (simp [listT] at hn; done) | (simp [chkT] at h; done)
  · cases t <;> first | (simp [listT] at hn; done) | (simp [chkI] at h; done)
  · subst h; simp [listT] at hn
/-- one that is no test but by its value -/
theorem SAll.val {t : T} (hn : listT t = false) (e : SE c tb F t) (hs : ∀ sc x, chkE c sc t x = true → specialB x = false) : SAll c tb F t :=
  SAll.mk' hn e (fun X sc x G h => pt_of (e X sc x G h) (hs sc x h)) fun X sc op xs pos G h => by have := hs sc _ h; cases this
/-- what is no expression -/
theorem SAll.no {t : T} (hn : listT t = false) (h : ∀ sc x, chkE c sc t x = false) : SAll c tb F t :=
  SAll.mk' hn (fun X sc x G hx => by rw [h] at hx; cases hx) (fun X sc x G hx => by rw [h] at hx; cases hx) fun X sc op xs pos G hx => by rw [h] at hx; cases hx

theorem gl_of {X : Cx} {sc : Scope} {x : Str} (G : Gd X c sc tb F) (h : glB sc x = true) : Gl X x := by
  unfold glB at h
  have := of_decide_eq_true h
  show X.env.scope.names.lookup x = _
  rw [G.scp]; exact this
theorem dbg_of {x : Str} (h : dbgB x = true) : (x == ("__debug__" : Str)) = false ∧ (x == ("__classdict__" : Str)) = false := by
  unfold dbgB at h
  simpa using h
theorem isName_inv {sc : Scope} {n : Str} {e : Expr} (h : isName sc n e = true) : ∃ p, e = .Name n p ∧ glB sc n = true := by
  unfold isName at h
  split at h
  · simp only [Bool.and_eq_true, decide_eq_true_eq] at h
    obtain ⟨rfl, h2⟩ := h
    exact ⟨_, rfl, h2⟩
  · cases h
theorem evL_len {sc : Scope} : ∀ (t : T) (xs : List Expr) env S ds S', chkL c sc t xs = true → evL tb F t env S = some (ds, S') → ds.length = xs.length := by
  intro t
  induction t with
  | nil =>
    intro xs env S ds S' h e
    have : xs = [] := by simpa [chkL] using h
    subst this
    simp only [evL] at e
    cases e; rfl
  | cons a b iha ihb =>
    intro xs env S ds S' h e
    cases xs with
    | nil => simp [chkL] at h
    | cons x r =>
      simp only [chkL, Bool.and_eq_true] at h
      simp only [evL] at e
      obtain ⟨r1, e1, e⟩ := obind e
      obtain ⟨⟨d2, S2⟩, e2, e⟩ := omap e
      cases e
      simp [ihb r env r1.2 d2 S2 h.2 e2]
  | _ => intro xs env S ds S' h; simp [chkL] at h
theorem chkL_none {sc : Scope} {es : T} (h : chkL c sc es [] = true) : es = .nil := by
  cases es <;> simp [chkL] at h
  rfl
theorem chkL_one {sc : Scope} {es : T} {e : Expr} (h : chkL c sc es [e] = true) : ∃ a, es = .cons a .nil ∧ starB e = false ∧ chkE c sc a e = true := by
  cases es <;> simp only [chkL, Bool.and_eq_true, Bool.not_eq_true', Bool.false_eq_true, List.isEmpty_cons] at h
  obtain ⟨⟨h1, h2⟩, h3⟩ := h
  exact ⟨_, by rw [chkL_none h3], h1, h2⟩
theorem chkL_two {sc : Scope} {es : T} {e f : Expr} (h : chkL c sc es [e, f] = true) : ∃ a b, es = .cons a (.cons b .nil) ∧ starB e = false ∧ chkE c sc a e = true ∧ starB f = false ∧ chkE c sc b f = true := by
  cases es <;> simp only [chkL, Bool.and_eq_true, Bool.not_eq_true', Bool.false_eq_true, List.isEmpty_cons] at h
  obtain ⟨⟨h1, h2⟩, h3⟩ := h
  obtain ⟨b, rfl, h4, h5⟩ := chkL_one h3
  exact ⟨_, b, rfl, h1, h2, h4, h5⟩
theorem stars_plain {X : Cx} {sc : Scope} {pos : Pos} : ∀ (t : T) (xs : List Expr), chkL c sc t xs = true → (backTo pos (starEach xs X.env)).any (·.1) = false ∧ ∀ x ∈ xs, starB x = false := by
  intro t
  induction t with
  | nil =>
    intro xs h
    have : xs = [] := by simpa [chkL] using h
    subst this; exact ⟨rfl, by simp⟩
  | cons a b iha ihb =>
    intro xs h
    cases xs with
    | nil => simp [chkL] at h
    | cons x r =>
      simp only [chkL, Bool.and_eq_true, Bool.not_eq_true'] at h
      obtain ⟨h1, h2⟩ := ihb r h.2
      refine ⟨?_, fun y hy => ?_⟩
      · rw [sEach h.1.1]
        show (backTo pos ((false, eval x X.env) :: starEach r X.env)).any (·.1) = false
        simpa [backTo] using h1
      · rcases List.mem_cons.mp hy with rfl | hy
        · exact h.1.1
        · exact h2 y hy
  | _ => intro xs h; simp [chkL] at h
/-- a call of a built-in function or type by its rule -/
theorem bi_pe {X : Cx} {sc : Scope} {es : T} {b : Bi} {fn : Expr} {xs : List Expr} {pos : Pos} {fr : Bool} (G : Gd X c sc tb F) (hx : isName sc (biName b) fn = true) (hl : chkL c sc es xs = true) (hb : biName b ∈ bltNames)
    (hd : (biName b == ("__debug__" : Str)) = false) (hnn : biName b ≠ "__name__") (ih : PA X xs (tA X.K (evL tb F es)))
    (rule : (∃ id, bootBuiltins (biName b) = some (.builtin id) ∧ CallR X (.builtin id) (rBi X.K b)) ∨ ∃ id, bootBuiltins (biName b) = some (.type id) ∧ CallR X (.type id) (rBi X.K b)) (hne : biD b [] = none) :
    PE X (.Call fn xs [] pos) (tE X.K (fun env S => (evL tb F es env S).bind fun r => (biD b (r.1.map (peek r.2))).map fun d => (d, r.2)) fr) := by
  obtain ⟨p, rfl, hg⟩ := isName_inv hx
  cases xs with
  | nil =>
    refine pe_abs fun σ H Q h => ?_
    obtain ⟨z, env, d, S', C, E, e, q⟩ := h
    obtain ⟨⟨ds, S1⟩, e1, e⟩ := obind e
    have := evL_len es [] _ _ _ _ hl e1
    have : ds = [] := List.eq_nil_of_length_eq_zero this
    subst this
    simp only [List.map_nil, hne] at e
    cases e
  | cons x r =>
    have h1 := (stars_plain (X := X) (pos := pos) es (x :: r) hl).2 x (List.mem_cons_self ..)
    have h2 : (backTo pos (starEach r X.env)).any (·.1) = false := by
      have := (stars_plain (X := X) (pos := pos) es (x :: r) hl).1
      rw [sEach h1] at this
      simpa [backTo] using this
    rcases rule with ⟨id, hv, hr⟩ | ⟨id, hv, hr⟩
    · exact ⟨fun pins s σ H Q I hq => (pe_callB hr (gl_of G hg) (G.bn _ hb) hv ih hnn hd (sEach h1) h2).run pins s σ H Q I (bi_step hq)⟩
    · exact ⟨fun pins s σ H Q I hq => (pe_callTy hr (gl_of G hg) (G.bn _ hb) hv ih hnn hd (sEach h1) h2).run pins s σ H Q I (bi_step hq)⟩
end
end TW
end
section
set_option Elab.async false
set_option linter.all false
set_option maxRecDepth 100000
set_option maxHeartbeats 4000000
/-! TwAll: the induction over terms. -/
namespace TW
open PySem PySem.Spec PyProof.Rows L2
variable {c : Ck} {tb : Tb} {F : Clf}

theorem blk_gd {X : Cx} {sc scope : Scope} (G : Gd X c sc tb F) (s : Shared) (H : Hp) (C : Addr) (cl : List (Str × Addr)) (fp : List Addr) : Gd (X.blk s H scope (compEnvC scope cl C X.env) fp) c (relS scope sc) tb F := by
  refine ⟨G.calm, G.n, G.nd, ?_, G.gu, G.un, G.bn, G.cal, G.has, G.fit⟩
  rw [← G.scp]
  rfl
theorem blk_st {X : Cx} {sc scope : Scope} (s : Shared) (H : Hp) (C : Addr) (cl : List (Str × Addr)) (fp : List Addr) :
    ∀ x, L2.Loc (relS scope sc) x → locB scope x = true → (X.blk s H scope (compEnvC scope cl C X.env) fp).fn x = true ∨ (relS scope sc).names.lookup x = some .local := by
  intro x _ h
  rcases loc_of h with h | h
  · exact .inr (lookup_relS_keep (by decide) h)
  · refine .inl ?_
    show (scope.names.lookup x == some .cell) = true
    rw [h]; rfl
theorem slots_own {sc : Scope} {st : Str → Bool} {own : List Nat} : ∀ t : T, (∀ x, chkG c sc st (some own) t x = true → ∀ k ∈ slotsT t, k ∈ own) ∧ ∀ xs, chkGs c sc st (some own) t xs = true → ∀ k ∈ slotsT t, k ∈ own := by
  intro t
  induction t with
  | var k =>
    refine ⟨fun x h => ?_, fun xs h => by simp [chkGs] at h⟩
    cases x <;> simp [chkG] at h
    intro k' hk
    simp [slotsT] at hk
    subst hk
    exact h.2
  | tup ts ih =>
    refine ⟨fun x h => ?_, fun xs h => by simp [chkGs] at h⟩
    cases x <;> simp [chkG] at h
    exact fun k hk => ih.2 _ h k (by simpa [slotsT] using hk)
  | nil => exact ⟨fun x h => by simp [chkG] at h, fun xs h k hk => by simp [slotsT] at hk⟩
  | cons a b iha ihb =>
    refine ⟨fun x h => by simp [chkG] at h, fun xs h k hk => ?_⟩
    cases xs with
    | nil => simp [chkGs] at h
    | cons x r =>
      simp only [chkGs, Bool.and_eq_true] at h
      simp only [slotsT, List.mem_append] at hk
      rcases hk with hk | hk
      · exact iha.1 x h.1.2 k hk
      · exact ihb.2 r h.2 k hk
  | _ => exact ⟨fun x h => by simp [chkG] at h, fun xs h => by simp [chkGs] at h⟩
theorem ownP_map {N : List Str} {own : List Nat} : True := trivial
theorem folded_plain {e : Expr} (h : setB e = false) (env : Env) : ∀ x, foldedSetIterable e env x = pure x := by
  intro x
  cases e <;> first | rfl | cases h
theorem plain_ix {b : Expr} (h : sliceB b = false) : PlainIx b := by
  intro o i
  cases b <;> first | rfl | cases h
theorem base_ok {o : Expr} (h : bareB o = false) (name : Str) (env : Env) : attributeBase o name env (eval o env) = eval o env := by
  cases o with
  | Call fn args kws pos =>
    cases fn <;> first | rfl | skip
    cases args <;> first | rfl | skip
    cases kws <;> first | rfl | cases h
  | _ => rfl
theorem few_ok {x : Expr} {r : List Expr} {pos : Pos} {X : Cx} {sc : Scope} {es : T} (hl : chkL c sc es (x :: r) = true) (hn : (x :: r).length < 29) :
    ((backTo pos (starEach (x :: r) X.env)).all (fun x => !x.1) && (backToKw pos (keywordEach [] X.env)).all (fun x => x.1.isSome)
      && decide ((x :: r).length + ([] : List Keyword).length + (if ([] : List Keyword).isEmpty then 0 else 1) < 30)) = true := by
  have h1 := (stars_plain (X := X) (pos := pos) es (x :: r) hl).1
  have h2 : (backTo pos (starEach (x :: r) X.env)).all (fun x => !x.1) = true := by
    rw [List.all_eq_true]
    intro y hy
    rw [List.any_eq_false] at h1
    simpa using h1 y hy
  rw [h2]
  have h3 : (x :: r).length + ([] : List Keyword).length + (if ([] : List Keyword).isEmpty then 0 else 1) < 30 := by
    simp only [List.length_nil, List.isEmpty_nil, if_true]
    omega
  rw [decide_eq_true h3]
  rfl
theorem mt_pe {X : Cx} {sc : Scope} {m : Mt} {o es : T} {oe : Expr} {name : Str} {apos pos : Pos} {xs : List Expr} (G : Gd X c sc tb F) (ho : PE X oe (tE X.K (evE tb F o) (frE tb o))) (hl : PA X xs (tA X.K (evL tb F es)))
    (hname : name = mtName m) (hline : (apos.endLine == pos.line) = true) (hb : bareB oe = false) (hc : chkL c sc es xs = true) (hn : xs.length < 29) :
    PE X (.Call (.Attribute oe name apos) xs [] pos) (tE X.K (fun env S => (evE tb F o env S).bind fun r => (evL tb F es env r.2).bind fun q => mtD q.2 m r.1 q.1) false) := by
  subst hname
  have hbase := base_ok hb (mtName m) X.env
  cases xs with
  | nil =>
    obtain rfl := chkL_none hc
    cases m with
    | pop =>
      exact ⟨fun pins s σ H Q I hq => (pe_bm0 PySem.F.plainAttrs_list PySem.F.slot_list_pop PySem.F.type_list_pop mt_pop ho hbase hline).run pins s σ H Q I (pop_step hq)⟩
    | bitLength => exact ⟨fun pins s σ H Q I hq => (pe_bits ho hbase hline).run pins s σ H Q I (bits_step hq)⟩
    | _ =>
      refine pe_abs fun σ H Q h => ?_
      obtain ⟨z, env, d, S', C, E, e, q⟩ := h
      obtain ⟨⟨d1, S1⟩, e1, e⟩ := obind e
      simp [evL, mtD, appD, popAtD, indexD] at e
  | cons x r =>
    have h1 := (stars_plain (X := X) (pos := pos) es (x :: r) hc).2 x (List.mem_cons_self ..)
    have h2 : (backTo pos (starEach r X.env)).any (·.1) = false := by
      have := (stars_plain (X := X) (pos := pos) es (x :: r) hc).1
      rw [sEach h1] at this
      simpa [backTo] using this
    have hfew := few_ok (X := X) (pos := pos) hc hn
    cases m with
    | append => exact ⟨fun pins s σ H Q I hq => (pe_bm PySem.F.plainAttrs_list PySem.F.slot_list_append PySem.F.type_list_append mt_append ho hl hbase hfew hline (sEach h1) h2).run pins s σ H Q I (app_step hq)⟩
    | popAt => exact ⟨fun pins s σ H Q I hq => (pe_bm PySem.F.plainAttrs_list PySem.F.slot_list_pop PySem.F.type_list_pop mt_popAt ho hl hbase hfew hline (sEach h1) h2).run pins s σ H Q I (popAt_step hq)⟩
    | index => exact ⟨fun pins s σ H Q I hq => (pe_bm PySem.F.plainAttrs_list PySem.F.slot_list_index PySem.F.type_list_index (mt_indexD (by have := G.un; omega)) ho hl hbase hfew hline (sEach h1) h2).run pins s σ H Q I (index_step hq)⟩
    | pop | bitLength =>
      refine pe_abs fun σ H Q h => ?_
      obtain ⟨z, env, d, S', C, E, e, q⟩ := h
      obtain ⟨⟨d1, S1⟩, e1, e⟩ := obind e
      obtain ⟨⟨ds, S2⟩, e2, e⟩ := obind e
      have := evL_len es (x :: r) _ _ _ _ hc e2
      cases ds with
      | nil => simp at this
      | cons _ _ => simp [mtD, popD, bitsD] at e
    | count =>
      refine pe_abs fun σ H Q h => ?_
      obtain ⟨z, env, d, S', C, E, e, q⟩ := h
      obtain ⟨⟨d1, S1⟩, e1, e⟩ := obind e
      obtain ⟨⟨ds, S2⟩, e2, e⟩ := obind e
      simp [mtD] at e
end TW
end
section
set_option Elab.async false
set_option linter.all false
set_option maxRecDepth 100000
set_option maxHeartbeats 8000000
/-! TwInd: every checked expression is evaluated rightly. -/
namespace TW
open PySem PySem.Spec PyProof.Rows L2
variable {c : Ck} {tb : Tb} {F : Clf}

def isK : Bi → Bool
  | .isInt | .isBool | .isList | .isTuple | .isStr | .isDict => true
  | _ => false
theorem boot_k {b : Bi} (h : isK b = true) : bootBuiltins (Str.ofString (kName b)) = some (.type (kName b)) ∧ Str.ofString (kName b) ∈ bltNames ∧ (Str.ofString (kName b) == ("__debug__" : Str)) = false ∧ Str.ofString (kName b) ≠ "__name__" := by
  cases b <;> first | (cases h; done) | skip
  · exact ⟨boot_int, by decide +kernel, by decide +kernel, by decide +kernel⟩
  · exact ⟨boot_bool, by decide +kernel, by decide +kernel, by decide +kernel⟩
  · exact ⟨boot_list, by decide +kernel, by decide +kernel, by decide +kernel⟩
  · exact ⟨boot_tuple, by decide +kernel, by decide +kernel, by decide +kernel⟩
  · exact ⟨boot_str, by decide +kernel, by decide +kernel, by decide +kernel⟩
  · exact ⟨boot_dict, by decide +kernel, by decide +kernel, by decide +kernel⟩
theorem isi_facts : (("isinstance" : Str) ∈ bltNames) ∧ (("isinstance" : Str) == ("__debug__" : Str)) = false ∧ ("isinstance" : Str) ≠ "__name__" := ⟨by decide +kernel, by decide +kernel, by decide +kernel⟩
theorem isk_pe {X : Cx} {sc : Scope} {b : Bi} {es : T} {fn e t : Expr} {pos : Pos} (hk : isK b = true) (G : Gd X c sc tb F) (h1 : isName sc "isinstance" fn = true) (h2 : isName sc (Str.ofString (kName b)) t = true) (h3 : chkL c sc es [e] = true)
    (ih : ∀ a, es = .cons a .nil → SE c tb F a) : PE X (.Call fn [e, t] [] pos) (tE X.K (fun env S => (evL tb F es env S).bind fun r => (biD b (r.1.map (peek r.2))).map fun d => (d, r.2)) (frE tb (.bi b es))) := by
  obtain ⟨p1, rfl, g1⟩ := isName_inv h1
  obtain ⟨p2, rfl, g2⟩ := isName_inv h2
  obtain ⟨a, rfl, hs, hc⟩ := chkL_one h3
  obtain ⟨k1, k2, k3, k4⟩ := boot_k hk
  have he := ih a rfl X sc e G hc
  have hbn := pe_bltn (X := X) (pos := p2) (v := V.ty (kName b)) (gl_of G g2) (G.bn _ k2) k1 rfl k4 k3
  have pa := pa_cons he (pa_cons hbn pa_nil (sEach rfl)) (sEach hs)
  refine ⟨fun pins s σ H Q I hq => (pe_callB (cb_isk (b := b) (by rintro rfl; cases hk)) (gl_of G g1) (G.bn _ isi_facts.1) boot_isinstance pa isi_facts.2.2 isi_facts.2.1 (sEach hs) rfl).run pins s σ H Q I ?_⟩
  have step := isk_step (ga := evE tb F a) (fa := frE tb a) (rest := evL tb F .nil) (b := b) (fun ds => by cases b <;> first | rfl | cases hk) (fun _ _ => rfl) hq
  obtain ⟨z, env, d, S', C, E, e1, q⟩ := step
  refine ⟨z, env, d, S', C, E, e1, fun z1 v1 H1 s1 C1 F1 R1 f1 => ?_⟩
  obtain ⟨z2, d2, t2, r2, C2, P2, w1, w2, q2⟩ := q z1 v1 H1 s1 C1 F1 R1 f1
  exact ⟨_, d2, t2, r2, rfl, P2.full, w1, w2, q2 H1 C2 (Sf.refl _ _)⟩
theorem isLT_pe {X : Cx} {sc : Scope} {es : T} {fn e t1 t2 : Expr} {k : Nat} {pos pos2 : Pos} (G : Gd X c sc tb F) (h1 : isName sc "isinstance" fn = true) (h2 : isName sc "list" t1 = true) (h2' : isName sc "tuple" t2 = true) (h3 : chkL c sc es [e] = true)
    (ih : ∀ a, es = .cons a .nil → SE c tb F a) : PE X (.Call fn [e, .Tuple [t1, t2] k pos2] [] pos) (tE X.K (fun env S => (evL tb F es env S).bind fun r => (biD .isLT (r.1.map (peek r.2))).map fun d => (d, r.2)) (frE tb (.bi .isLT es))) := by
  obtain ⟨p1, rfl, g1⟩ := isName_inv h1
  obtain ⟨p2, rfl, g2⟩ := isName_inv h2
  obtain ⟨p3, rfl, g3⟩ := isName_inv h2'
  obtain ⟨a, rfl, hs, hc⟩ := chkL_one h3
  have he := ih a rfl X sc e G hc
  have hl := pe_bltn (X := X) (pos := p2) (v := V.ty "list") (gl_of G g2) (G.bn _ (by decide +kernel)) boot_list rfl (by decide +kernel) (by decide +kernel)
  have ht := pe_bltn (X := X) (pos := p3) (v := V.ty "tuple") (gl_of G g3) (G.bn _ (by decide +kernel)) boot_tuple rfl (by decide +kernel) (by decide +kernel)
  have pa := pa_cons he (pa_cons (pe_tup (x1 := k) (pos := pos2) (pa_cons hl (pa_cons ht pa_nil (sEach rfl)) (sEach rfl))) pa_nil (sEach rfl)) (sEach hs)
  refine ⟨fun pins s σ H Q I hq => (pe_callB cb_isLT (gl_of G g1) (G.bn _ isi_facts.1) boot_isinstance pa isi_facts.2.2 isi_facts.2.1 (sEach hs) rfl).run pins s σ H Q I ?_⟩
  have step := isk_step (ga := evE tb F a) (fa := frE tb a) (rest := evL tb F .nil) (b := .isLT) (fun ds => rfl) (fun _ _ => rfl) hq
  obtain ⟨z, env, d, S', C, E, e1, q⟩ := step
  refine ⟨z, env, d, S', C, E, e1, fun z1 v1 H1 s1 C1 F1 R1 f1 => ?_⟩
  obtain ⟨z2, d2, t2, r2, C2, P2, w1, w2, q2⟩ := q z1 v1 H1 s1 C1 F1 R1 f1
  refine ⟨by rw [sizeLine_eq]; decide, fun p hp => ?_⟩
  obtain ⟨C3, F3⟩ := C2.alloc hp (.tup [.ty "list", .ty "tuple"])
  exact ⟨_, p, d2, t2, r2, rfl, upd_same, P2.full.mono (Le.updN hp), w1, w2, q2 _ C3 F3⟩
theorem lenSet_pe {X : Cx} {sc : Scope} {es : T} {fn fn2 e : Expr} {pos pos2 : Pos} (G : Gd X c sc tb F) (h1 : isName sc "len" fn = true) (h2 : isName sc "set" fn2 = true) (h3 : chkL c sc es [e] = true)
    (ih : ∀ a, es = .cons a .nil → SE c tb F a) : PE X (.Call fn [.Call fn2 [e] [] pos2] [] pos) (tE X.K (fun env S => (evL tb F es env S).bind fun r => (biD .lenSet (r.1.map (peek r.2))).map fun d => (d, r.2)) (frE tb (.bi .lenSet es))) := by
  obtain ⟨p1, rfl, g1⟩ := isName_inv h1
  obtain ⟨p2, rfl, g2⟩ := isName_inv h2
  obtain ⟨a, rfl, hs, hc⟩ := chkL_one h3
  have he := ih a rfl X sc e G hc
  exact ⟨fun pins s σ H Q I hq => (pe_lenSet (gl_of G g1) (G.bn _ (by decide +kernel)) (gl_of G g2) (G.bn _ (by decide +kernel)) he G.calm (sEach hs)).run pins s σ H Q I
    (lenSet_step (ga := evE tb F a) (fa := frE tb a) (rest := evL tb F .nil) (fun _ _ => rfl) hq)⟩
theorem bi_plain {X : Cx} {sc : Scope} {b : Bi} {es : T} {fn : Expr} {xs : List Expr} {pos : Pos} {fr : Bool} (G : Gd X c sc tb F) (hk : isK b = false) (hn : b ≠ .isLT) (hn2 : b ≠ .lenSet) (hn3 : b ≠ .sorted) (h1 : isName sc (biName b) fn = true) (h2 : chkL c sc es xs = true)
    (ih : PA X xs (tA X.K (evL tb F es))) : PE X (.Call fn xs [] pos) (tE X.K (fun env S => (evL tb F es env S).bind fun r => (biD b (r.1.map (peek r.2))).map fun d => (d, r.2)) fr) := by
  have hu := G.un
  cases b <;> first | (cases hk; done) | exact (hn rfl).elim | exact (hn2 rfl).elim | exact (hn3 rfl).elim | skip
  · exact bi_pe G h1 h2 (by decide +kernel) (by decide +kernel) (by decide +kernel) ih (.inl ⟨"len", PySem.boot_len, cb_len⟩) rfl
  · exact bi_pe G h1 h2 (by decide +kernel) (by decide +kernel) (by decide +kernel) ih (.inr ⟨"int", boot_int, cb_int⟩) rfl
  · exact bi_pe G h1 h2 (by decide +kernel) (by decide +kernel) (by decide +kernel) ih (.inl ⟨"max", boot_max, cb_max G.calm⟩) rfl
  · exact bi_pe G h1 h2 (by decide +kernel) (by decide +kernel) (by decide +kernel) ih (.inl ⟨"min", boot_min, cb_min G.calm⟩) rfl
  · exact bi_pe G h1 h2 (by decide +kernel) (by decide +kernel) (by decide +kernel) ih (.inl ⟨"sum", by decide +kernel, cb_sum G.calm⟩) rfl
  · exact bi_pe G h1 h2 (by decide +kernel) (by decide +kernel) (by decide +kernel) ih (.inr ⟨"list", boot_list, cb_list⟩) rfl
  · exact bi_pe G h1 h2 (by decide +kernel) (by decide +kernel) (by decide +kernel) ih (.inr ⟨"tuple", boot_tuple, cb_tuple⟩) rfl
  · exact bi_pe G h1 h2 (by decide +kernel) (by decide +kernel) (by decide +kernel) ih (.inl ⟨"all", by decide +kernel, cb_all G.calm⟩) rfl
  · exact bi_pe G h1 h2 (by decide +kernel) (by decide +kernel) (by decide +kernel) ih (.inl ⟨"any", by decide +kernel, cb_any G.calm⟩) rfl
  · exact bi_pe G h1 h2 (by decide +kernel) (by decide +kernel) (by decide +kernel) ih (.inl ⟨"repr", boot_repr, cb_repr G.gu (by omega)⟩) rfl
  · exact bi_pe G h1 h2 (by decide +kernel) (by decide +kernel) (by decide +kernel) ih (.inl ⟨"divmod", boot_divmod, cb_divmod⟩) rfl
theorem callD_none {f : Nat} {ds : List PyData} {S : Sto} (h : ∀ ds S, F f ds S = none) : callD F f ds S = none := by
  unfold callD
  split
  · cases getAll S (cellsOf ds 0).2 with
    | none => rfl
    | some L => simp only [Option.bind_some, h, Option.bind_none]
  · rfl
theorem call_pe {X : Cx} {sc : Scope} {f : Nat} {rs : List Bool} {es : T} {id : Str} {p pos : Pos} {xs : List Expr} (G : Gd X c sc tb F) (h1 : c.nm f = some id) (h2 : glB sc id = true) (h3 : dbgB id = true) (h4 : chkL c sc es xs = true)
    (ih : PA X xs (tA X.K (evL tb F es))) : PE X (.Call (.Name id p) xs [] pos) (tE X.K (fun env S => (evL tb F es env S).bind fun r => (settleBy rs r.2 r.1).bind fun q => callD F f q.1 q.2) (frE tb (.call f rs es))) := by
  cases hf : tb f with
  | none =>
    refine pe_abs fun σ H Q h => ?_
    obtain ⟨z, env, d, S', C, E, e, q⟩ := h
    obtain ⟨⟨ds, S1⟩, e1, e⟩ := obind e
    obtain ⟨⟨ds2, S2⟩, e2, e⟩ := obind e
    rw [callD_none fun ds S => G.has f ds S hf] at e
    cases e
  | some fn =>
    obtain ⟨fa, fd, ps, k, m1, m2, m3, m4, m5, m6, _⟩ := G.cal f fn id hf h1
    have hfr : frE tb (.call f rs es) = true → fn.fr = true := fun h => by
      unfold frE at h
      rw [hf] at h
      exact h
    obtain ⟨d1, _⟩ := dbg_of h3
    cases xs with
    | nil =>
      obtain rfl := chkL_none h4
      refine ⟨fun pins s σ H Q I hq => (peG0 m6 m5 G.gu (gl_of G h2) m1 m2 m3 pass0 d1).run pins s σ H Q I ?_⟩
      obtain ⟨z, env, ds, S', C, E, e, q⟩ := call_step (fun ds S r e => G.fit f fn ds S r hf e) hfr hq
      cases e
      exact q z [] H rfl C (Sf.refl z H) .nil
    | cons x r =>
      have s1 := (stars_plain (X := X) (pos := pos) es (x :: r) h4).2 x (List.mem_cons_self ..)
      have s2 : (backTo pos (starEach r X.env)).any (·.1) = false := by
        have := (stars_plain (X := X) (pos := pos) es (x :: r) h4).1
        rw [sEach s1] at this
        simpa [backTo] using this
      exact ⟨fun pins s σ H Q I hq => (peG m6 m5 G.gu (gl_of G h2) m1 m2 m3 pass0 ih d1 (sEach s1) s2).run pins s σ H Q I (call_step (fun ds S r e => G.fit f fn ds S r hf e) hfr hq)⟩

/-! ### keywords -/
theorem kw_all {pos : Pos} {env : Env} : ∀ kws : List Keyword, (backToKw pos (keywordEach kws env)).all (·.1.isSome) = kws.all (fun k => k.arg.isSome) ∧ (backToKw pos (keywordEach kws env)).filterMap (·.1) = kws.filterMap (fun k => k.arg)
  | [] => ⟨rfl, rfl⟩
  | k :: kws => by
    obtain ⟨h1, h2⟩ := kw_all (pos := pos) (env := env) kws
    have e : backToKw pos (keywordEach (k :: kws) env) = (k.arg, (do let v ← eval k.value env; standAt pos; pure v)) :: backToKw pos (keywordEach kws env) := by cases k; rfl
    rw [e]
    refine ⟨?_, ?_⟩
    · rw [List.all_cons, List.all_cons, h1]
    · rw [List.filterMap_cons, List.filterMap_cons, h2]
theorem kw_none {pos : Pos} {env : Env} {kws : List Keyword} (h : kws.all (fun k => k.arg.isSome) = true) : ((backTo pos (starEach [] env)).any (·.1) || (backToKw pos (keywordEach kws env)).any (·.1.isNone)) = false := by
  have h1 := (kw_all (pos := pos) (env := env) kws).1
  rw [h] at h1
  rw [List.all_eq_true] at h1
  have : (backToKw pos (keywordEach kws env)).any (·.1.isNone) = false := by
    rw [List.any_eq_false]
    intro x hx
    have := h1 x hx
    cases e : x.1 with
    | none => rw [e] at this; cases this
    | some _ => simp
  rw [this]; rfl
theorem getD_all {K : PySem.W.Frag} {z : Zs} {H : Hp} : ∀ {vs : List V} {ds : List PyData}, DqAll K (z.mask H) vs ds → ∀ j, Rv K z H (vs.getD j .non) (ds.getD j .none)
  | _, _, .nil, j => .inl (by simpa using Dq.non)
  | _, _, .cons a b, 0 => .inl (by simpa using a)
  | _, _, .cons a b, j + 1 => by simpa using getD_all b j
theorem perm_all {K : PySem.W.Frag} {z : Zs} {H : Hp} {vs : List V} {ds : List PyData} (h : DqAll K (z.mask H) vs ds) : ∀ perm : List Nat, RvL K z H (perm.map fun j => vs.getD j .non) (perm.map fun j => ds.getD j .none)
  | [] => .nil
  | j :: js => .cons (getD_all h j) (perm_all h js)
theorem callk_pe {X : Cx} {sc : Scope} {f : Nat} {perm : List Nat} {es : T} {id : Str} {p pos : Pos} {kws : List Keyword} (G : Gd X c sc tb F) (h1 : c.nm f = some id) (h2 : glB sc id = true) (h3 : dbgB id = true)
    (h4 : kws.all (fun k => k.arg.isSome) = true) (h5 : (f, kws.filterMap (fun k => k.arg), perm) ∈ c.kw) (h6 : chkL c sc es (kws.map fun k => k.value) = true)
    (ih : PK X kws (tA X.K (evL tb F es))) : PE X (.Call (.Name id p) [] kws pos) (tE X.K (evE tb F (.callk f perm es)) (frE tb (.callk f perm es))) := by
  cases hf : tb f with
  | none =>
    refine pe_abs fun σ H Q h => ?_
    obtain ⟨z, env, d, S', C, E, e, q⟩ := h
    simp only [evE] at e
    obtain ⟨⟨ds, S1⟩, e1, e⟩ := obind e
    obtain ⟨⟨ds2, S2⟩, e2, e⟩ := obind e
    rw [callD_none fun ds S => G.has f ds S hf] at e
    cases e
  | some fn =>
    obtain ⟨fa, fd, ps, k, m1, m2, m3, m4, m5, m6, m7⟩ := G.cal f fn id hf h1
    have hb := m7 _ _ h5
    have hfr : frE tb (.callk f perm es) = true → fn.fr = true := fun h => by
      unfold frE at h
      rw [hf] at h
      exact h
    obtain ⟨d1, _⟩ := dbg_of h3
    obtain ⟨w1, w2⟩ := kw_all (pos := pos) (env := X.env) kws
    refine ⟨fun pins s σ H Q I hq => wpAny_Call_Name_kw (ld_glob I (gl_of G h2) m1 (PySem.W.callWith_KW0 (h₀ := X.base) I.ok.mod.kin m2 (by rw [w1]; exact h4) ?_ (kw_none h4)) d1)⟩
    obtain ⟨z, env, d, S', C, E, e, q⟩ := hq
    simp only [evE] at e
    obtain ⟨⟨ds, S1⟩, e1, e⟩ := obind e
    obtain ⟨⟨ds2, S2⟩, e2, e⟩ := obind e
    refine thn (ih.run pos pins s σ H (fun vs H2 => ∃ z2, z2.S = S1 ∧ StC X.K z2 H2 ∧ Sf z H z2 H2 ∧ RvL X.K z2 H2 vs ds) I ⟨z, env, ds, S1, C, E, e1, fun z2 vs H2 s2 C2 F2 R2 => ⟨z2, s2, C2, F2, R2⟩⟩) fun us s2 ⟨vs, H2, I2, rz, z2, s2', C2, F2, R2⟩ => ⟨I2.kIn, ?_⟩
    rw [w2]
    obtain ⟨z3, s3, _, _, C3, F3, D3⟩ := settleAll_ok C2 R2 (show settleAll z2.S ds = some (ds2, S2) by rw [s2']; exact e2)
    have hl1 : vs.length = (kws.filterMap (fun k => k.arg)).length := by
      have a1 := evL_len es _ env z.S ds S1 h6 e1
      have a2 : vs.length = ds.length := Paired.length R2
      have a3 : ∀ l : List Keyword, l.all (fun k => k.arg.isSome) = true → (l.filterMap (fun k => k.arg)).length = l.length := fun l => by
        induction l with
        | nil => intro _; rfl
        | cons x r ihr =>
          intro hl
          rw [List.all_cons, Bool.and_eq_true] at hl
          cases ex : x.arg with
          | none => rw [ex] at hl; cases hl.1
          | some y => rw [List.filterMap_cons, ex]; simp [ihr hl.2]
      rw [a2, a1, a3 kws h4, List.length_map]
    refine runGk (us := []) m6 m5 G.gu hb pass0 I2 .nil rz ?_
    have eg : gK V.non (kws.filterMap (fun k => k.arg)) perm [] vs = perm.map fun j => vs.getD j .non := by
      unfold gK
      rw [if_pos hl1, List.nil_append]
    rw [eg]
    obtain ⟨z0, ds0, S0, C0, R0, g0, l0, back⟩ := call_own (ffr := fn.fr) (d := d) (S' := S') C3 (perm_all D3 perm) (show callD F f _ z3.S = some (d, S') by rw [s3]; exact e)
    refine ⟨?_, z0, ds0, d, S0, C0, R0, g0, fun z' v H' s' m' C' F' D' f' => ?_⟩
    · exact (Paired.length R0 : _ = ds0.length).trans (G.fit f fn _ _ _ hf g0)
    · obtain ⟨z4, s4, _, C4, F4, D4, f4⟩ := back z' v H' s' m' C' F' D' f'
      exact q z4 v H' s4 C4 (F2.trans (F3.trans F4)) (.inl D4) fun hf' => (f4 (hfr hf')).before (F2.trans F3)
end TW
end
section
set_option Elab.async false
set_option linter.all false
set_option maxRecDepth 100000
set_option maxHeartbeats 8000000
/-! TwExpAll: every checked expression is evaluated rightly. -/
namespace TW
open PySem PySem.Spec PyProof.Rows L2
variable {c : Ck} {tb : Tb} {F : Clf}

/-- the parts of a checked comprehension -/
theorem lc_parts {sc scope : Scope} {own : List Nat} {tg it ifs el : T} {elt tge ite : Expr} {ifse : List Expr} {X : Cx} (G : Gd X c sc tb F) (h : chkE c sc (.lc own tg it ifs el) (.ListComp elt [⟨tge, ite, ifse, 0⟩] scope pos) = true)
    (hi : SAll c tb F it) (hf : SAll c tb F ifs) (he : SAll c tb F el) :
    (ownP c.N own).map (·.2) = own ∧ BlkOk X.N X.env.scope scope (ownP c.N own) ∧ PI X tge ite (tI X.K (evI tb F it)) ∧
      (∀ s H C cl fp, PG (X.blk s H scope (compEnvC scope cl C X.env) fp) tge (tG X.K tg)) ∧ (∀ s H C cl fp, PTs (X.blk s H scope (compEnvC scope cl C X.env) fp) ifse (tTs X.K (evT tb F ifs))) ∧
      (∀ s H C cl fp, PE (X.blk s H scope (compEnvC scope cl C X.env) fp) elt (tE X.K (evE tb F el) (frE tb el))) ∧ (∀ x, foldedSetIterable ite X.env x = pure x) ∧ ∀ k ∈ slotsT tg, k ∈ own := by
  simp only [chkE, Bool.and_eq_true, decide_eq_true_eq, Bool.not_eq_true'] at h
  obtain ⟨⟨⟨⟨⟨⟨h1, h2⟩, h3⟩, h4⟩, h5⟩, h6⟩, h7⟩ := h
  have h2 : BlkOk X.N X.env.scope scope (ownP c.N own) := by
    rw [G.n, G.scp]
    exact blkOk_by h2
  exact ⟨h1, h2, hi.fi X sc tge ite G h4, fun s H C cl fp => (pg_all (blk_gd G s H C cl fp) (blk_st s H C cl fp) tg).1 _ _ h3, fun s H C cl fp => hf.fs _ _ _ (blk_gd G s H C cl fp) h5,
    fun s H C cl fp => he.fe _ _ _ (blk_gd G s H C cl fp) h6, folded_plain h7 X.env, (slots_own tg).1 _ h3⟩
theorem lc_pe {X : Cx} {sc scope : Scope} {own : List Nat} {tg it ifs el : T} {elt tge ite : Expr} {ifse : List Expr} {pos : Pos} (G : Gd X c sc tb F) (h : chkE c sc (.lc own tg it ifs el) (.ListComp elt [⟨tge, ite, ifse, 0⟩] scope pos) = true)
    (hi : SAll c tb F it) (hf : SAll c tb F ifs) (he : SAll c tb F el) : PE X (.ListComp elt [⟨tge, ite, ifse, 0⟩] scope pos) (tE X.K (evE tb F (.lc own tg it ifs el)) true) := by
  obtain ⟨h1, h2, h3, h4, h5, h6, h7, h8⟩ := lc_parts G h hi hf he
  refine ⟨fun pins s σ H Q I hq => (pe_lc G.calm (by rw [G.n]; exact G.nd) h3 h2 h4 h5 h6 h7).run pins s σ H Q I ?_⟩
  rw [h1]
  exact lc_step h8 hq
theorem lrng_pe {X : Cx} {sc : Scope} {es : T} {fn fn2 : Expr} {xs : List Expr} {pos pos2 : Pos} (G : Gd X c sc tb F) (h1 : isName sc "list" fn = true) (h2 : isName sc "range" fn2 = true) (h3 : chkL c sc es xs = true) (h4 : xs.length = 1 ∨ xs.length = 2)
    (ih : ∀ a b, es = .cons a b → SE c tb F a ∧ ∀ a' b', b = .cons a' b' → SE c tb F a') :
    PE X (.Call fn [.Call fn2 xs [] pos2] [] pos) (tE X.K (fun env S => (evL tb F es env S).bind fun r => (rngD r.1).bind fun ds => if ds.length ≤ line then some (.list ds, r.2) else none) true) := by
  obtain ⟨p1, rfl, g1⟩ := isName_inv h1
  obtain ⟨p2, rfl, g2⟩ := isName_inv h2
  have rgv : ∀ lo hi : Int, ∀ H, DqAll X.K H (rgV lo hi) (intRange lo (hi - lo).toNat) := fun lo hi H => by
    unfold rgV intRange
    generalize (hi - lo).toNat = n
    have := DqAll.ofInts (K := X.K) (H := H) ((List.range n).map fun i => lo + (i : Nat))
    rw [List.map_map, List.map_map] at this
    exact this
  have fin : ∀ {z z1 : Zs} {H0 H1 : Hp} {Q : VK} {S' : Sto} {lo hi : Int}, (∀ z' v H', z'.S = S' → StC X.K z' H' → Sf z H0 z' H' → Rv X.K z' H' v (.list (intRange lo (hi - lo).toNat)) → (true = true → Fr X.K z H0 z' H' v (.list (intRange lo (hi - lo).toNat))) → Q v H') →
      z1.S = S' → StC X.K z1 H1 → Sf z H0 z1 H1 → ∀ q, H1 q = none → Q (.ref q) (upd H1 q (.lst (rgV lo hi))) := fun {z z1 H0 H1 Q S' lo hi} q s1 C1 F1 p hp => by
    obtain ⟨C3, F3⟩ := C1.alloc hp (.lst (rgV lo hi))
    obtain ⟨D3, f3⟩ := C1.fresh hp (rgv lo hi _)
    exact q z1 _ _ s1 C3 (F1.trans F3) (.inl D3) fun _ => f3.before F1
  have len_r : ∀ lo n, (intRange lo n).length = n := fun lo n => by simp [intRange]
  rcases h4 with h4 | h4
  · obtain ⟨e, rfl⟩ : ∃ e, xs = [e] := by
      cases xs with
      | nil => cases h4
      | cons x r => cases r with
        | nil => exact ⟨x, rfl⟩
        | cons _ _ => simp at h4
    obtain ⟨a, rfl, hs, hc⟩ := chkL_one h3
    have he := (ih a .nil rfl).1 X sc e G hc
    refine ⟨fun pins s σ H Q I hq => (pe_listRg G.calm (gl_of G g1) (G.bn _ (by decide +kernel)) (prg_1 (gl_of G g2) (G.bn _ (by decide +kernel)) he (sEach hs)) (sEach rfl)).run pins s σ H Q I ?_⟩
    obtain ⟨z, env, d, S', C, E, e0, q⟩ := hq
    obtain ⟨⟨ds, S1⟩, e1, e0⟩ := obind e0
    simp only [evL] at e1
    obtain ⟨⟨d1, S2⟩, e2, e1⟩ := obind e1
    cases e1
    obtain ⟨r, e3, e0⟩ := obind e0
    split at e0
    · next hl =>
      cases e0
      rcases rng_inv e3 with ⟨j, ej, hb, rfl⟩ | ⟨i, j, ej, _, _⟩
      · cases ej
        refine ⟨z, env, _, _, C, E, e2, fun z1 v1 H1 s1 C1 F1 R1 _ => ⟨j, R1.int, ⟨by omega, by omega, hb.1, hb.2, ?_⟩, ?_⟩⟩
        · rw [len_r] at hl
          rw [Int.sub_zero]
          have hln : line = 16777216 := rfl
          omega
        · have q' := fin (lo := 0) (hi := j) (z := z) (H0 := H) (Q := Q) (by rw [Int.sub_zero]; exact q) s1 C1 F1
          exact q'
      · cases ej
    · cases e0
  · obtain ⟨e, f, rfl⟩ : ∃ e f, xs = [e, f] := by
      cases xs with
      | nil => cases h4
      | cons x r => cases r with
        | nil => cases h4
        | cons y r => cases r with
          | nil => exact ⟨x, y, rfl⟩
          | cons _ _ => simp at h4
    obtain ⟨a, b, rfl, hs, hc, hs2, hc2⟩ := chkL_two h3
    have he := (ih a _ rfl).1 X sc e G hc
    have hf := (ih a _ rfl).2 b .nil rfl X sc f G hc2
    refine ⟨fun pins s σ H Q I hq => (pe_listRg G.calm (gl_of G g1) (G.bn _ (by decide +kernel)) (prg_2 (gl_of G g2) (G.bn _ (by decide +kernel)) he hf (sEach hs) (sEach hs2) (by rw [sEach hs2]; rfl)) (sEach rfl)).run pins s σ H Q I ?_⟩
    obtain ⟨z, env, d, S', C, E, e0, q⟩ := hq
    obtain ⟨⟨ds, S1⟩, e1, e0⟩ := obind e0
    simp only [evL] at e1
    obtain ⟨⟨d1, S2⟩, e2, e1⟩ := obind e1
    obtain ⟨⟨d3, S3⟩, e4, e1⟩ := omap e1
    cases e1
    obtain ⟨⟨d5, S5⟩, e5, e6⟩ := obind e4
    cases e6
    obtain ⟨r, e3, e0⟩ := obind e0
    split at e0
    · next hl =>
      cases e0
      rcases rng_inv e3 with ⟨j, ej, _, _⟩ | ⟨i, j, ej, hb, rfl⟩
      · cases ej
      · cases ej
        refine ⟨z, env, _, S2, C, E, e2, fun z1 v1 H1 s1 C1 F1 R1 _ => ⟨z1, env, _, _, C1, E.mono F1, by rw [s1]; exact e5, fun z2 v2 H2 s2 C2 F2 R2 _ => ⟨i, j, R1.int, R2.int, ⟨hb.1, hb.2.1, hb.2.2.1, hb.2.2.2, ?_⟩, ?_⟩⟩⟩
        · rw [len_r] at hl
          have hln : line = 16777216 := rfl
          omega
        · exact fin q s2 C2 (F1.trans F2)
    · cases e0
end TW
end
section
set_option Elab.async false
set_option linter.all false
set_option maxRecDepth 100000
set_option maxHeartbeats 2000000
/-! TwSlr: a[::-1], a[:hi:-1]. -/
namespace TW
open PySem PySem.Spec PyProof.Rows L2

theorem rev_range (m h : Nat) (n : Nat) (e : m = n - (h + 1)) : (List.range m).map (fun k => n - 1 - k) = ((List.range m).map (fun k => h + 1 + k)).reverse := by
  apply List.ext_getElem
  · simp
  · intro i h1 h2
    have hm : i < m := by simpa using h1
    rw [List.getElem_map, List.getElem_reverse, List.getElem_map]
    simp only [List.getElem_range, List.length_map, List.length_range]
    omega
theorem fm_congr {α β : Type} {f g : α → Option β} : ∀ {l : List α}, (∀ k ∈ l, f k = g k) → l.filterMap f = l.filterMap g
  | [], _ => rfl
  | x :: xs, h => by
    rw [List.filterMap_cons, List.filterMap_cons, h x (List.mem_cons_self ..), fm_congr fun k hk => h k (List.mem_cons_of_mem _ hk)]
theorem pick_rev (items : Array Value) (h : Nat) : slicePick items none (some (h : Int)) (some (-1)) = (items.toList.drop (h + 1)).reverse.toArray := by
  unfold slicePick
  have hb : sliceBounds none (some (h : Int)) (some (-1)) items.size = ((items.size : Int) - 1, min (h : Int) ((items.size : Int) - 1), -1) := by
    have h1 : ¬ ((-1 : Int) > 0) := by decide
    have h2 : ¬ ((h : Int) < 0) := by omega
    have h3 : max (-1 : Int) (min (h : Int) ((items.size : Int) - 1)) = min (h : Int) ((items.size : Int) - 1) := by omega
    simp only [sliceBounds, Option.getD_some, h1, if_false, h2, h3]
  rw [hb]
  have hr : sliceRange ((items.size : Int) - 1) (min (h : Int) ((items.size : Int) - 1)) (-1) = (List.range (items.size - (h + 1))).map fun k => items.size - 1 - k := by
    unfold sliceRange
    have h1 : ¬ ((-1 : Int) > 0) := by decide
    by_cases hh : (items.size : Int) - 1 > min (h : Int) ((items.size : Int) - 1)
    · have e : ((items.size : Int) - 1 - min (h : Int) ((items.size : Int) - 1) - -1 - 1) / (- -1) = ((items.size - (h + 1) : Nat) : Int) := by
        rw [show (- -1 : Int) = 1 by decide, Int.ediv_one]
        omega
      simp only [h1, if_false, hh, if_true, e, Int.toNat_natCast]
      apply List.map_congr_left
      intro k hk
      have := List.mem_range.mp hk
      omega
    · have e : items.size - (h + 1) = 0 := by omega
      simp only [h1, if_false, hh, e]
      simp
  show ((sliceRange ((items.size : Int) - 1) (min (h : Int) ((items.size : Int) - 1)) (-1)).filterMap (items[·]?)).toArray = _
  rw [hr, rev_range _ h _ rfl, List.filterMap_reverse, pick_run, List.take_of_length_le (by rw [List.length_drop, Array.length_toList]; omega)]

section
variable {prog : Program} {w : World} {A : Around} {E : Value → Shared → Prop} {s : Shared}
theorem slApp_rev {sl : Addr} {vl vu vs : Value} {n : Nat} {Q : Int × Int × Nat → Shared → Prop} (hs : s.heap.IsSliceOf sl vl vu vs) (pl : IsPart vl none) (pu : IsPart vu none) (ps : IsPart vs (some (-1)))
    (h : Q ((n : Int) - 1, -1, n) s) : wpAny (model prog w) A (Builtin.Slice.sliceApplied (.ref sl) (pure (n : Int))) Q E s := by
  obtain ⟨os, hos, hcs, hds⟩ := id hs
  unfold Builtin.Slice.sliceApplied Builtin.Slice.sliceFields
  refine wpAny_bind (wpAny_bind (wpAny_field hos hds (x := vl) rfl (wpAny_bind (wpAny_field hos hds (x := vu) rfl (wpAny_bind (wpAny_field hos hds (x := vs) rfl (wpAny_pure ?_)))))))
  refine wpAny_bind (HT.slicePart_ ps ?_)
  show wpAny _ _ (if ((-1 : Int) == 0) = true then _ else _) _ _ s
  rw [if_neg (by decide)]
  refine wpAny_bind (HT.slicePart_ pl (wpAny_bind (HT.slicePart_ pu (wpAny_bind (wpAny_pure ?_)))))
  show wpAny _ _ (pure ((n : Int) - 1, (-1 : Int), Builtin.Slice.slicePlaces ((n : Int) - 1) (-1) (-1))) _ _ s
  have e : Builtin.Slice.slicePlaces ((n : Int) - 1) (-1) (-1) = n := by
    unfold Builtin.Slice.slicePlaces
    have h1 : ¬ ((-1 : Int) > 0) := by decide
    simp only [h1, if_false]
    rw [show (- -1 : Int) = 1 by decide, Int.ediv_one]
    split <;> omega
  rw [e]
  exact wpAny_pure h
theorem pick_back (xs : Array Value) : ((List.range xs.size).filterMap fun (m : Nat) => xs[((xs.size : Int) - 1 + (m : Int) * -1).toNat]?).toArray = xs.toList.reverse.toArray := by
  have e : (List.range xs.size).filterMap (fun (m : Nat) => xs[((xs.size : Int) - 1 + (m : Int) * -1).toNat]?) = ((List.range xs.size).map fun k => xs.size - 1 - k).filterMap (xs[·]?) := by
    rw [List.filterMap_map]
    apply fm_congr
    intro k hk
    have := List.mem_range.mp hk
    have e : ((xs.size : Int) - 1 + (k : Int) * -1).toNat = xs.size - 1 - k := by omega
    rw [e]
    try rfl
  rw [e, PySem.W.krv_range, List.filterMap_reverse, PySem.W.krv_all]
theorem getItem_tuple_rev {t sl : Addr} {items : Array Value} {vl vu vs : Value} {Q : Value → Shared → Prop} (ht : IsTup s.heap t items) (hs : s.heap.IsSliceOf sl vl vu vs) (pl : IsPart vl none) (pu : IsPart vu none) (ps : IsPart vs (some (-1)))
    (h : Q (.ref s.heap.objs.size) { s with heap := s.heap.push { cls := .type "tuple", data := .seq items.toList.reverse.toArray } })
    (hsz : items.size ≤ sizeLine) : wpAny (model prog w) A (getItem (.ref t) (.ref sl)) Q E s := by
  have htake : sizeOk (.seq items.toList.reverse.toArray) := by
    show items.toList.reverse.toArray.size ≤ sizeLine
    rw [List.size_toArray, List.length_reverse, Array.length_toList]
    exact hsz
  obtain ⟨os, hos, hcs, hds⟩ := id hs
  have hTs : s.TypeIs (.ref sl) "slice" := ⟨os, hos, hcs⟩
  unfold getItem
  try with_reducible refine wpAny_holding ?_
  first | refine wpAny_bind (wpAny_pure ?_) | skip
  refine wpAny_bind (wpAny_sequenceKey ht.typeIs (by decide) ?_)
  refine wpAny_bind (wpAny_callSpecial?_slot (name := Str.ofString "__getitem__") ht.typeIs PyProof.Rows.slot_tuple_getitem
    (wpAny_call_entry PyProof.Rows.slot_tuple_getitem ht.typeIs entry_tuple_getitem ?_ (args_tuple_getitem _ _)))
  show wpAny _ _ (Builtin.Tuple.tupleItemsOf (.ref t) >>= _) _ _ s
  refine wpAny_bind (tupleItemsOf_ ht ?_)
  refine wpAny_bind (wpAny_typeOf hTs ?_)
  rw [if_pos (by decide)]
  refine wpAny_bind (slApp_rev hs pl pu ps ?_)
  have hno : ¬ ((((items.size : Int) - 1) == 0 && (-1 : Int) == 1 && items.size == items.size) = true) := by
    rw [show ((-1 : Int) == 1) = false by decide]
    simp
  show wpAny _ _ (if ((((items.size : Int) - 1) == 0 && (-1 : Int) == 1 && items.size == items.size) = true) then _ else _) _ _ s
  rw [if_neg hno, pick_back]
  first
    | exact wpAny_bind (m := Builtin.Tuple.tupleExact _) (wpAny_newObj_type (wpAny_pure ⟨_, rfl, wpAny_pure h⟩) htake)
    | exact wpAny_bind (m := Builtin.Tuple.tupleExact _) (wpAny_newObj_type (wpAny_bind (wpAny_pure (wpAny_pure ⟨_, rfl, wpAny_pure h⟩))) htake)
    | exact wpAny_bind (wpAny_bind (m := Builtin.Tuple.tupleExact _) (wpAny_newObj_type (wpAny_pure (wpAny_pure ⟨_, rfl, wpAny_pure h⟩)) htake))
    | exact wpAny_bind (wpAny_bind (m := Builtin.Tuple.tupleExact _) (wpAny_newObj_type (wpAny_pure ⟨_, rfl, wpAny_pure h⟩) htake))
end

section
variable {X : Cx} {ga : Evf} {fa : Bool} {gh : Evn → Sto → Option (Option PyData × Sto)} {ae : Expr} {h : Option Expr} {k : Nat} {p1 p2 p3 pos : Pos}
theorem slr_inv {a : PyData} {o : Option PyData} {r : PyData} (e : slrD a o = some r) : (∃ ds, a = .list ds ∧ o = none ∧ r = .list ds.reverse) ∨ (∃ ds, a = .tuple ds ∧ o = none ∧ r = .tuple ds.reverse) ∨
    ∃ (ds : List PyData) (n : Nat), a = .list ds ∧ o = some (.int n) ∧ r = .list (ds.drop (n + 1)).reverse := by
  unfold slrD at e
  split at e
  · cases e; exact .inl ⟨_, rfl, rfl, rfl⟩
  · cases e; exact .inr (.inl ⟨_, rfl, rfl, rfl⟩)
  · next ds i =>
    split at e
    · next hc =>
      simp only [Bool.and_eq_true, decide_eq_true_eq] at hc
      cases e
      exact .inr (.inr ⟨ds, i.toNat, rfl, by rw [Int.toNat_of_nonneg hc.1], rfl⟩)
    · cases e
  · cases e
theorem slr_pe (he : PE X ae (tE X.K ga fa)) (hh : PO X h (tO X.K gh)) :
    PE X (.Subscript ae (.Slice none h (some (.UnaryOp .USub (.Constant (.int 1) k p1) p2)) p3) pos) (tE X.K (fun env S => (ga env S).bind fun r => (gh env r.2).bind fun q => (slrD (peek q.2 r.1) q.1).map fun d => (d, q.2)) true) := by
  refine ⟨fun pins s σ H Q I hq => ?_⟩
  obtain ⟨z, env, d, S', C, E, e, q⟩ := hq
  obtain ⟨r1, e1, e⟩ := obind e
  obtain ⟨⟨o1, S1⟩, e2, e⟩ := obind e
  obtain ⟨d', e4, e⟩ := omap e
  cases e
  have bd : ∃ u, o1 = Option.map PyData.int u := by
    rcases slr_inv e4 with ⟨_, _, h, _⟩ | ⟨_, _, h, _⟩ | ⟨_, n, _, h, _⟩
    · exact ⟨none, h⟩
    · exact ⟨none, h⟩
    · exact ⟨some n, h⟩
  obtain ⟨u, rfl⟩ := bd
  refine Subscript_ (thn (he.run pins s σ H (fun x H1 => ∃ z1, z1.S = r1.2 ∧ StC X.K z1 H1 ∧ Sf z H z1 H1 ∧ Rv X.K z1 H1 x r1.1) I ⟨z, env, r1.1, r1.2, C, E, e1, fun z1 v1 H1 s1 C1 F1 R1 _ => ⟨z1, s1, C1, F1, R1⟩⟩) fun v s1 ⟨x, H1, I1, rx, z1, w1, C1, F1, R1⟩ => ?_)
  have hst : PO X (some (.UnaryOp .USub (.Constant (.int 1) k p1) p2)) (tPart (tUn (rU fun i => .int (-i)) (tC (.int 1)))) := po_some (pe_un un_neg pe_int)
  refine wpAny_Slice (thn (po_none.run pins s1 σ H1 (fun o H2 => o = none ∧ H2 = H1) I1 ⟨rfl, rfl⟩) fun vl s2 ⟨l, H2, I2, pl, el, eh2⟩ => ?_)
  subst el eh2
  refine thn (hh.run pins s2 σ H2 (fun o H3 => o = u ∧ ∃ z2, z2.S = S1 ∧ StC X.K z2 H3 ∧ Sf z1 H2 z2 H3) I2 ⟨z1, env, u, S1, C1, E.mono F1, by rw [w1]; exact e2, fun z2 H3 s2 C2 F2 => ⟨rfl, z2, s2, C2, F2⟩⟩) fun vu s3 ⟨u', H3, I3, pu, eu, z2, w2, C2, F2⟩ => ?_
  subst eu
  refine thn (hst.run pins s3 σ H3 (fun o H4 => o = some (-1) ∧ H4 = H3) I3 ⟨1, rfl, -1, rfl, rfl, rfl⟩) fun vs s4 ⟨o, H4, I4, ps, eo, e4'⟩ => ?_
  subst eo e4'
  have I5 : Inv X pins σ H4 { s4 with heap := s4.heap.push { cls := .type "slice", data := .fields #[vl, vu, vs] } } := I4.kept (t' := s4.toks) fun b ob q => Heap.get?_push_of_some _ q
  have hx := (R1.mono F2).look C2
  rw [w2] at hx
  have fin : Res X.K z2 H4 d Q := fun v' H' C' F' D' f' => q z2 v' H' w2 C' (F1.trans (F2.trans F')) (.inl D') fun _ ds e => (f' ds e).before (F1.trans F2) ds e
  show wpAny (model X.prog X.w) X.A (subscriptTail ae (.Slice none h (some (.UnaryOp .USub (.Constant (.int 1) k p1) p2)) p3) v (.ref s4.heap.objs.size)) (EP X pins σ Q) X.xe { s4 with heap := s4.heap.push { cls := .type "slice", data := .fields #[vl, vu, vs] } }
  rcases slr_inv e4 with ⟨ds, ea, eo, er⟩ | ⟨ds, ea, eo, er⟩ | ⟨ds, n, ea, eo, er⟩
  · simp only at ea eo
    rw [ea] at hx
    obtain ⟨a, xs, rfl, h1, h2⟩ := hx.list
    cases u' with
    | some _ => cases eo
    | none =>
      cases rx
      obtain ⟨its, r, ht, hz⟩ := I5.list (SqL.of h1)
      have hlen := r.length
      refine tail_any (ops := [.ref a, .ref s4.heap.objs.size]) ht.isList.typeIs (PySem.slot_list_getitem.lookup) ?_ (by with_unfolding_all rfl)
      refine wpAny_getItem_list_slice ht.isList (Heap.IsSliceOf.new _ vl vu vs) pl pu ps (by decide) ?_ (by rw [List.size_toArray]; omega)
      rw [PySem.W.krv_pick]
      refine ⟨.ref _, _, I5.laid (t' := s4.toks) (o := .lst xs.reverse) (fun b ob q => Heap.get?_push_of_some _ q) (Nat.le_refl _) ?_, rfl, ?_⟩
      · exact ⟨by rw [List.length_reverse]; exact hz, _, 0, r.reverse, Heap.get?_push_size _ rfl⟩
      · subst er
        exact fin.lst C2 h2.rev _ (I5.hok.fresh (Nat.le_refl _))
  · simp only at ea eo
    rw [ea] at hx
    obtain ⟨a, xs, rfl, h1, h2⟩ := hx.tup
    cases u' with
    | some _ => cases eo
    | none =>
      cases rx
      obtain ⟨its, r, ht, hz⟩ := I5.tuple (SqT.of h1)
      have hlen := r.length
      refine tail_any (ops := [.ref a, .ref s4.heap.objs.size]) ht.typeIs (PyProof.Rows.slot_tuple_getitem.lookup) ?_ (by with_unfolding_all rfl)
      refine getItem_tuple_rev ht (Heap.IsSliceOf.new _ vl vu vs) pl pu ps ?_ (by rw [List.size_toArray]; omega)
      refine ⟨.ref _, _, I5.laid (t' := s4.toks) (o := .tup xs.reverse) (fun b ob q => Heap.get?_push_of_some _ q) (Nat.le_refl _) ?_, rfl, ?_⟩
      · exact ⟨by rw [List.length_reverse]; exact hz, _, r.reverse, IsTup.new _ _⟩
      · subst er
        exact fin.tup C2 h2.rev _ (I5.hok.fresh (Nat.le_refl _))
  · simp only at ea eo
    rw [ea] at hx
    obtain ⟨a, xs, rfl, h1, h2⟩ := hx.list
    cases u' with
    | none => cases eo
    | some i =>
      cases eo
      cases rx
      obtain ⟨its, r, ht, hz⟩ := I5.list (SqL.of h1)
      have hlen := r.length
      refine tail_any (ops := [.ref a, .ref s4.heap.objs.size]) ht.isList.typeIs (PySem.slot_list_getitem.lookup) ?_ (by with_unfolding_all rfl)
      refine wpAny_getItem_list_slice ht.isList (Heap.IsSliceOf.new _ vl vu vs) pl pu ps (by decide) ?_ (by rw [List.size_toArray]; omega)
      rw [pick_rev]
      refine ⟨.ref _, _, I5.laid (t' := s4.toks) (o := .lst (xs.drop (n + 1)).reverse) (fun b ob q => Heap.get?_push_of_some _ q) (Nat.le_refl _) ?_, rfl, ?_⟩
      · exact ⟨by rw [List.length_reverse, List.length_drop]; omega, _, 0, (r.drop (n + 1)).reverse, Heap.get?_push_size _ rfl⟩
      · subst er
        exact fin.lst C2 (h2.drop (n + 1)).rev _ (I5.hok.fresh (Nat.le_refl _))
end
end TW
end
section
set_option Elab.async false
set_option linter.all false
set_option maxRecDepth 100000
set_option maxHeartbeats 8000000
/-! TwExpOk: the induction over terms, closed. -/
namespace TW
open PySem PySem.Spec PyProof.Rows L2
variable {c : Ck} {tb : Tb} {F : Clf}

theorem and_parts {sc : Scope} {op : BoolOp} {a b : T} {xs : List Expr} {pos : Pos} (h : (match xs with
      | x1 :: x2 :: r => chkE c sc a x1 && (match r with | [] => chkE c sc b x2 | _ => chkE c sc b (.BoolOp op (x2 :: r) pos))
      | _ => false) = true) : ∃ x1 x2 r, xs = x1 :: x2 :: r ∧ chkE c sc a x1 = true ∧ ((r = [] ∧ chkE c sc b x2 = true) ∨ chkE c sc b (.BoolOp op (x2 :: r) pos) = true) := by
  split at h
  · next x1 x2 r =>
    simp only [Bool.and_eq_true] at h
    refine ⟨x1, x2, r, rfl, h.1, ?_⟩
    have h2 := h.2
    split at h2
    · exact .inl ⟨rfl, h2⟩
    · exact .inr h2
  · cases h
theorem and_inv {sc : Scope} {a b : T} {x : Expr} (h : chkE c sc (.and a b) x = true) : ∃ x1 x2 r pos, x = .BoolOp .And (x1 :: x2 :: r) pos ∧ chkE c sc a x1 = true ∧ ((r = [] ∧ chkE c sc b x2 = true) ∨ chkE c sc b (.BoolOp .And (x2 :: r) pos) = true) := by
  simp only [chkE] at h
  split at h
  · next x1 x2 r pos =>
    obtain ⟨y1, y2, s, e, h1, h2⟩ := and_parts (op := .And) (xs := x1 :: x2 :: r) (pos := pos) h
    cases e
    exact ⟨_, _, _, _, rfl, h1, h2⟩
  · cases h
theorem or_inv {sc : Scope} {a b : T} {x : Expr} (h : chkE c sc (.or a b) x = true) : ∃ x1 x2 r pos, x = .BoolOp .Or (x1 :: x2 :: r) pos ∧ chkE c sc a x1 = true ∧ ((r = [] ∧ chkE c sc b x2 = true) ∨ chkE c sc b (.BoolOp .Or (x2 :: r) pos) = true) := by
  simp only [chkE] at h
  split at h
  · next x1 x2 r pos =>
    obtain ⟨y1, y2, s, e, h1, h2⟩ := and_parts (op := .Or) (xs := x1 :: x2 :: r) (pos := pos) h
    cases e
    exact ⟨_, _, _, _, rfl, h1, h2⟩
  · cases h
theorem and_ok {a b : T} (ia : SAll c tb F a) (ib : SAll c tb F b) : SAll c tb F (.and a b) := by
  have w : ∀ X sc op xs pos, Gd X c sc tb F → chkE c sc (.and a b) (.BoolOp op xs pos) = true → PW X (.BoolOp op xs pos) (tT X.K (evE tb F (.and a b))) := by
    intro X sc op xs pos G h
    obtain ⟨x1, x2, r, p, e, h1, h2⟩ := and_inv h
    cases e
    rcases h2 with ⟨rfl, h2⟩ | h2
    · exact ⟨fun wh pins s σ H Q I hq => (pw_and (ia.ft X sc x1 G h1) (pw_and1 (ib.ft X sc x2 G h2))).run wh pins s σ H Q I (andT_step hq)⟩
    · exact ⟨fun wh pins s σ H Q I hq => (pw_and (ia.ft X sc x1 G h1) (ib.fw X sc _ _ _ G h2)).run wh pins s σ H Q I (andT_step hq)⟩
  refine SAll.mk' rfl (fun X sc x G h => ?_) (fun X sc x G h => ?_) w
  · obtain ⟨x1, x2, r, p, rfl, h1, h2⟩ := and_inv h
    rcases h2 with ⟨rfl, h2⟩ | h2
    · exact ⟨fun pins s σ H Q I hq => (pe_and (ia.fe X sc x1 G h1) (pe_one (ib.fe X sc x2 G h2))).run pins s σ H Q I (and_step hq)⟩
    · exact ⟨fun pins s σ H Q I hq => (pe_and (ia.fe X sc x1 G h1) (ib.fe X sc _ G h2)).run pins s σ H Q I (and_step hq)⟩
  · obtain ⟨x1, x2, r, p, rfl, _, _⟩ := and_inv h
    exact (w X sc _ _ _ G h).pt
theorem or_ok {a b : T} (ia : SAll c tb F a) (ib : SAll c tb F b) : SAll c tb F (.or a b) := by
  have w : ∀ X sc op xs pos, Gd X c sc tb F → chkE c sc (.or a b) (.BoolOp op xs pos) = true → PW X (.BoolOp op xs pos) (tT X.K (evE tb F (.or a b))) := by
    intro X sc op xs pos G h
    obtain ⟨x1, x2, r, p, e, h1, h2⟩ := or_inv h
    cases e
    rcases h2 with ⟨rfl, h2⟩ | h2
    · exact ⟨fun wh pins s σ H Q I hq => (pw_or (ia.ft X sc x1 G h1) (pw_or1 (ib.ft X sc x2 G h2))).run wh pins s σ H Q I (orT_step hq)⟩
    · exact ⟨fun wh pins s σ H Q I hq => (pw_or (ia.ft X sc x1 G h1) (ib.fw X sc _ _ _ G h2)).run wh pins s σ H Q I (orT_step hq)⟩
  refine SAll.mk' rfl (fun X sc x G h => ?_) (fun X sc x G h => ?_) w
  · obtain ⟨x1, x2, r, p, rfl, h1, h2⟩ := or_inv h
    rcases h2 with ⟨rfl, h2⟩ | h2
    · exact ⟨fun pins s σ H Q I hq => (pe_or (ia.fe X sc x1 G h1) (pe_one (ib.fe X sc x2 G h2))).run pins s σ H Q I (or_step hq)⟩
    · exact ⟨fun pins s σ H Q I hq => (pe_or (ia.fe X sc x1 G h1) (ib.fe X sc _ G h2)).run pins s σ H Q I (or_step hq)⟩
  · obtain ⟨x1, x2, r, p, rfl, _, _⟩ := or_inv h
    exact (w X sc _ _ _ G h).pt
theorem leaf_pe {X : Cx} {x : Expr} {v : V} {d : PyData} {fr : Bool} (h : PE X x (tC v)) (hd : ∀ H, Dq X.K H v d) (hl : ∀ ds, d ≠ .list ds) : PE X x (tE X.K (fun _ S => some (d, S)) fr) :=
  ⟨fun pins s σ H Q I hq => h.run pins s σ H Q I (by
    obtain ⟨z, env, d', S', C, E, e, q⟩ := hq
    cases e
    exact q z v H rfl C (Sf.refl z H) (.inl (hd _)) fun _ ds e => (hl ds e).elim)⟩
theorem neg_step {K : PySem.W.Frag} {σ : L2.St} {H : Hp} {Q : VK} {ga : Evf} {fa : Bool} (h : tE K (fun env S => (ga env S).bind fun r => match r.1 with
    | .int i => some (.int (-i), r.2)
    | _ => none) false σ H Q) : tUn (rU fun i => .int (-i)) (tE K ga fa) σ H Q :=
  step1 (r := fun x H1 Q => ∃ i, x = V.int i ∧ Q (.int (-i)) H1) h fun z v d H S' d' C R hk q => by
    simp only at hk
    split at hk
    · cases hk
      exact ⟨_, R.int, q z _ H rfl C (Sf.refl z H) (.inl (.int _)) fun h => by cases h⟩
    · cases hk
theorem thaw_step {K : PySem.W.Frag} {σ : L2.St} {H : Hp} {Q : VK} {ga : Evf} {fr : Bool} (hf : fr = false) (h : tE K (fun env S => (ga env S).bind fun r => match r.1 with
      | .list ds => some (cel r.2.length, r.2 ++ [(0, .list ds)])
      | _ => none) fr σ H Q) : tE K ga true σ H Q := by
  obtain ⟨z, env, d, S', C, E, e, q⟩ := h
  obtain ⟨⟨d1, S1⟩, e1, e⟩ := obind e
  simp only at e
  split at e
  · next ds hd =>
    cases e
    refine ⟨z, env, _, S1, C, E, e1, fun z1 v1 H1 s1 C1 F1 R1 f1 => ?_⟩
    obtain ⟨a, z2, rfl, s2, m2, C2, F2, R2⟩ := thaw_ok C1 F1 (f1 rfl)
    subst s1
    exact q z2 _ H1 s2 C2 F2 R2 fun h => by rw [hf] at h; cases h
  · cases e

theorem iteT_step {K : PySem.W.Frag} {σ : L2.St} {H : Hp} {Q : Bool → Hp → Prop} {gt ga gb : Evf} (h : tT K (fun env S => (gt env S).bind fun r => (isTrueD r.1).bind fun k => if k then ga env r.2 else gb env r.2) σ H Q) :
    tT K gt σ H fun k H1 => if k = true then tT K ga σ H1 Q else tT K gb σ H1 Q := by
  obtain ⟨z, env, d, S', C, E, e, q⟩ := h
  obtain ⟨⟨d1, S1⟩, e1, e⟩ := obind e
  obtain ⟨k, e2, e⟩ := obind e
  obtain rfl := true_inv e2
  refine ⟨z, env, k, S1, C, E, e1, fun z1 H1 s1 C1 F1 => ?_⟩
  cases k with
  | true =>
    simp only [if_true] at e ⊢
    exact ⟨z1, env, d, S', C1, E.mono F1, by rw [s1]; exact e, fun z2 H2 s2 C2 F2 => q z2 H2 s2 C2 (F1.trans F2)⟩
  | false =>
    simp only [if_false, Bool.false_eq_true] at e ⊢
    exact ⟨z1, env, d, S', C1, E.mono F1, by rw [s1]; exact e, fun z2 H2 s2 C2 F2 => q z2 H2 s2 C2 (F1.trans F2)⟩

theorem all_ok : ∀ t : T, SAll c tb F t := by
  intro t
  induction t with
  | var k =>
    refine SAll.val rfl (fun X sc x G h => ?_) (fun sc x h => by cases x <;> simp [chkE, specialB] at h ⊢)
    cases x <;> simp only [chkE, Bool.and_eq_true, decide_eq_true_eq, Bool.false_eq_true] at h
    obtain ⟨⟨h1, h2⟩, h3⟩ := h
    obtain ⟨d1, d2⟩ := dbg_of h3
    refine ⟨fun pins s σ H Q I hq => (pe_var (by rw [G.n]; exact h1) (by rw [G.scp]; exact vis_of h2) d1 d2).run pins s σ H Q I ?_⟩
    obtain ⟨z, env, d, S', C, E, e, q⟩ := hq
    simp only [evE] at e
    split at e
    · next d' hd =>
      split at e
      · cases e
      · next hg =>
        cases e
        obtain ⟨v, hv, R⟩ := E.ev k _ hd
        exact ⟨v, hv, q z v H rfl C (Sf.refl z H) (R.val (by simpa using hg)) fun h => by cases h⟩
    · cases e
  | int i =>
    refine SAll.val rfl (fun X sc x G h => ?_) (fun sc x h => by cases x <;> simp [chkE, specialB] at h ⊢)
    cases x <;> simp only [chkE, Bool.false_eq_true] at h
    split at h <;> first | (cases h; done) | skip
    next hc =>
      cases hc
      have := of_decide_eq_true h
      subst this
      exact leaf_pe pe_int (fun _ => .int _) fun _ h => by cases h
  | str s =>
    refine SAll.val rfl (fun X sc x G h => ?_) (fun sc x h => by cases x <;> simp [chkE, specialB] at h ⊢)
    cases x <;> simp only [chkE, Bool.false_eq_true] at h
    split at h <;> first | (cases h; done) | skip
    next hc =>
      cases hc
      have := of_decide_eq_true h
      subst this
      exact leaf_pe pe_str (fun _ => .str _) fun _ h => by cases h
  | bl b =>
    refine SAll.val rfl (fun X sc x G h => ?_) (fun sc x h => by cases x <;> simp [chkE, specialB] at h ⊢)
    cases x <;> simp only [chkE, Bool.false_eq_true] at h
    split at h <;> first | (cases h; done) | skip
    next hc =>
      cases hc
      have := of_decide_eq_true h
      subst this
      exact leaf_pe pe_bl (fun _ => .bl _) fun _ h => by cases h
  | non =>
    refine SAll.val rfl (fun X sc x G h => ?_) (fun sc x h => by cases x <;> simp [chkE, specialB] at h ⊢)
    cases x <;> simp only [chkE, Bool.false_eq_true] at h
    split at h <;> first | (cases h; done) | skip
    next hc =>
      cases hc
      exact leaf_pe pe_non (fun _ => .non) fun _ h => by cases h
  | edict =>
    refine SAll.val rfl (fun X sc x G h => ?_) (fun sc x h => by cases x <;> simp [chkE, specialB] at h ⊢)
    cases x <;> simp only [chkE, Bool.false_eq_true] at h
    split at h <;> first | (cases h; done) | skip
    next hc =>
      cases hc
      refine ⟨fun pins s σ H Q I hq => pe_dnewK.run pins s σ H Q I fun p hp => ?_⟩
      obtain ⟨z, env, d, S', C, E, e, q⟩ := hq
      cases e
      obtain ⟨C3, F3⟩ := C.alloc hp (.dK [])
      refine q z _ _ rfl C3 F3 (.inl (.edict ?_)) fun _ ds e => by cases e
      rw [Zs.mask_upd hp (C.notBusy hp).1]
      exact upd_same
  | bin o a b ia ib =>
    refine SAll.val rfl (fun X sc x G h => ?_) (fun sc x h => by cases x <;> simp [chkE, specialB] at h ⊢)
    cases x <;> simp only [chkE, Bool.and_eq_true, decide_eq_true_eq, Bool.false_eq_true] at h
    obtain ⟨⟨rfl, h1⟩, h2⟩ := h
    exact ⟨fun pins s σ H Q I hq => (pe_op (op_B o) (ia.fe X sc _ G h1) (ib.fe X sc _ G h2)).run pins s σ H Q I (bin_step hq)⟩
  | neg a ia =>
    refine SAll.val rfl (fun X sc x G h => ?_) (fun sc x h => ?_)
    · cases x <;> simp only [chkE, Bool.false_eq_true] at h
      split at h <;> first | (cases h; done) | skip
      next he =>
        cases he
        exact ⟨fun pins s σ H Q I hq => (pe_un un_neg (ia.fe X sc _ G h)).run pins s σ H Q I (neg_step hq)⟩
    · cases x <;> simp only [chkE, Bool.false_eq_true] at h
      split at h <;> first | (cases h; done) | skip
      next he => cases he; rfl
  | cmp o a b ia ib =>
    refine SAll.mk' rfl (fun X sc x G h => ?_) (fun X sc x G h => ?_) (fun X sc op xs pos G h => by simp [chkE] at h)
    all_goals
      cases x <;> simp only [chkE, Bool.false_eq_true] at h
      split at h <;> first | (cases h; done) | skip
      next he =>
        cases he
        simp only [Bool.and_eq_true, decide_eq_true_eq, Bool.not_eq_true'] at h
        obtain ⟨⟨⟨rfl, h1⟩, h2⟩, h3⟩ := h
        have hu := G.un
        first
          | exact ⟨fun pins s σ H Q I hq => (pe_cmpR (op_C (by omega) o) (ia.fe X sc _ G h1) (ib.fe X sc _ G h2) h3).run pins s σ H Q I (cmp_step hq)⟩
          | exact ⟨fun pins s σ H Q I hq => (pt_cmpR (op_C (by omega) o) (ia.fe X sc _ G h1) (ib.fe X sc _ G h2) h3).run pins s σ H Q I (cmp_step (tT_tE (fr := false) hq))⟩
  | chain o p a b d ia ib id =>
    refine SAll.mk' rfl (fun X sc x G h => ?_) (fun X sc x G h => ?_) (fun X sc op xs pos G h => by simp [chkE] at h)
    all_goals
      cases x <;> simp only [chkE, Bool.false_eq_true] at h
      split at h <;> first | (cases h; done) | skip
      next he =>
        cases he
        simp only [Bool.and_eq_true, decide_eq_true_eq, Bool.not_eq_true'] at h
        obtain ⟨⟨⟨⟨⟨rfl, rfl⟩, h1⟩, h2⟩, h3⟩, h4⟩ := h
        have hu := G.un
        first
          | exact ⟨fun pins s σ H Q I hq => (pe_chain (op_C (by omega) o) (op_C (by omega) p) (ia.fe X sc _ G h1) (ib.fe X sc _ G h2) (id.fe X sc _ G h3) h4).run pins s σ H Q I (chain_step hq)⟩
          | exact ⟨fun pins s σ H Q I hq => (pt_chain (op_C (by omega) o) (op_C (by omega) p) (ia.fe X sc _ G h1) (ib.fe X sc _ G h2) (id.fe X sc _ G h3) h4).run pins s σ H Q I (chain_step (tT_tE (fr := false) hq))⟩
  | and a b ia ib => exact and_ok ia ib
  | or a b ia ib => exact or_ok ia ib
  | not a ia =>
    refine SAll.mk' rfl (fun X sc x G h => ?_) (fun X sc x G h => ?_) (fun X sc op xs pos G h => by simp [chkE] at h)
    all_goals
      cases x <;> simp only [chkE, Bool.false_eq_true] at h
      split at h <;> first | (cases h; done) | skip
      next he =>
        cases he
        first
          | exact ⟨fun pins s σ H Q I hq => (pe_not (ia.fe X sc _ G h)).run pins s σ H Q I (not_step hq)⟩
          | exact ⟨fun pins s σ H Q I hq => (pt_not (ia.ft X sc _ G h)).run pins s σ H Q I (notT_step hq)⟩
  | ite d a b id ia ib =>
    refine SAll.mk' rfl (fun X sc x G h => ?_) (fun X sc x G h => ?_) (fun X sc op xs pos G h => by simp [chkE] at h)
    · cases x <;> simp only [chkE, Bool.and_eq_true, Bool.false_eq_true] at h
      obtain ⟨⟨h1, h2⟩, h3⟩ := h
      exact ⟨fun pins s σ H Q I hq => (pe_ifExp (id.ft X sc _ G h1) (ia.fe X sc _ G h2) (ib.fe X sc _ G h3)).run pins s σ H Q I (ite_step hq)⟩
    · cases x <;> simp only [chkE, Bool.and_eq_true, Bool.false_eq_true] at h
      obtain ⟨⟨h1, h2⟩, h3⟩ := h
      refine ⟨fun pins s σ H Q I hq => ?_⟩
      show wpAny _ _ (isTrue _ X.env (eval _ X.env) >>= fun k => if k = true then isTrue _ X.env (eval _ X.env) else isTrue _ X.env (eval _ X.env)) _ _ _
      refine wpAny_bind (thn ((id.ft X sc _ G h1).run pins s σ H _ I (iteT_step hq)) fun k s1 ⟨H1, I1, q1⟩ => ?_)
      cases k with
      | true => exact (ia.ft X sc _ G h2).run pins s1 σ H1 Q I1 q1
      | false => exact (ib.ft X sc _ G h3).run pins s1 σ H1 Q I1 q1
  | nil =>
    refine ⟨fun X sc x G h => by simp [chkE] at h, fun X sc x G h => by simp [chkE] at h, fun X sc op xs pos G h => by simp [chkE] at h, fun X sc xs G h => ?_, fun X sc kws G h => ?_, fun X sc x G h => ?_, fun X sc xs G h => ?_, fun X sc tg x G h => by simp [chkI] at h, fun a b h => by cases h⟩
    · have : xs = [] := by simpa [chkL] using h
      subst this
      refine ⟨fun pos pins s σ H Q I hq => pa_nil.run pos pins s σ H Q I ?_⟩
      obtain ⟨z, env, ds, S', C, E, e, q⟩ := hq
      simp only [evL] at e
      cases e
      exact q z [] H rfl C (Sf.refl z H) .nil
    · have : kws = [] := by simpa [chkL] using h
      subst this
      refine ⟨fun pos pins s σ H Q I hq => pk_nil.run pos pins s σ H Q I ?_⟩
      obtain ⟨z, env, ds, S', C, E, e, q⟩ := hq
      simp only [evL] at e
      cases e
      exact q z [] H rfl C (Sf.refl z H) .nil
    · have : x = none := by cases x <;> simp [chkO] at h; rfl
      subst this
      refine ⟨fun pins s σ H Q I hq => po_none.run pins s σ H Q I ?_⟩
      obtain ⟨z, env, o, S', C, E, e, q⟩ := hq
      simp only [evO] at e
      cases o with
      | none => cases e; exact q z H rfl C (Sf.refl z H)
      | some _ => cases e
    · have : xs = [] := by simpa [chkT] using h
      subst this
      refine ⟨fun pins s σ H Q I hq => pts_nil.run pins s σ H Q I ?_⟩
      obtain ⟨z, env, b, S', C, E, e, q⟩ := hq
      simp only [evT] at e
      cases e
      exact q z H rfl C (Sf.refl z H)
  | cons a b ia ib =>
    refine ⟨fun X sc x G h => by simp [chkE] at h, fun X sc x G h => by simp [chkE] at h, fun X sc op xs pos G h => by simp [chkE] at h, fun X sc xs G h => ?_, fun X sc kws G h => ?_, fun X sc x G h => ?_, fun X sc xs G h => ?_, fun X sc tg x G h => ?_, fun a' b' h => ?_⟩
    · cases xs with
      | nil => simp [chkL] at h
      | cons x r =>
        simp only [chkL, Bool.and_eq_true, Bool.not_eq_true'] at h
        obtain ⟨⟨h1, h2⟩, h3⟩ := h
        exact ⟨fun pos pins s σ H Q I hq => (pa_cons (ia.fe X sc x G h2) (ib.fl X sc r G h3) (sEach h1)).run pos pins s σ H Q I (consA_step hq)⟩
    · cases kws with
      | nil => simp [chkL] at h
      | cons x r =>
        simp only [List.map_cons, chkL, Bool.and_eq_true, Bool.not_eq_true'] at h
        obtain ⟨⟨h1, h2⟩, h3⟩ := h
        obtain ⟨nm, x, kp⟩ := x
        exact ⟨fun pos pins s σ H Q I hq => (pk_cons (ia.fe X sc x G h2) (ib.fk X sc r G h3)).run pos pins s σ H Q I (consA_step hq)⟩
    · cases x with
      | none => simp [chkO] at h
      | some x =>
        simp only [chkO] at h
        refine ⟨fun pins s σ H Q I hq => (po_some (ia.fe X sc x G h)).run pins s σ H Q I ?_⟩
        obtain ⟨z, env, o, S', C, E, e, q⟩ := hq
        simp only [evO] at e
        obtain ⟨⟨d, S1⟩, e1, e⟩ := omap e
        cases o with
        | none => cases e
        | some i => cases e; exact ⟨z, env, _, S1, C, E, e1, fun z1 v1 H1 s1 C1 F1 R1 _ => ⟨i, R1.int, q z1 H1 s1 C1 F1⟩⟩
    · cases xs with
      | nil => simp [chkT] at h
      | cons x r =>
        cases r with
        | cons _ _ => simp [chkT] at h
        | nil =>
          simp only [chkT] at h
          refine ⟨fun pins s σ H Q I hq => (pts_one (ia.ft X sc x G h)).run pins s σ H Q I ?_⟩
          obtain ⟨z, env, k, S', C, E, e, q⟩ := hq
          simp only [evT] at e
          obtain ⟨⟨d, S1⟩, e1, e⟩ := obind e
          obtain ⟨k', e2, e⟩ := omap e
          cases e
          obtain rfl := true_inv e2
          exact ⟨z, env, _, _, C, E, e1, q⟩
    · simp only [chkI] at h
      refine ⟨fun pins s σ H R I hq => ?_⟩
      rcases plain_step (fe := frE tb a) hq with hq | hq
      · exact (pi_list (ia.fe X sc x G h)).run pins s σ H R I hq
      · exact (pi_tup (ia.fe X sc x G h)).run pins s σ H R I hq
    · cases h
      exact ⟨ia.fe, fun a2 b2 h2 => (ib.hd a2 b2 h2).1⟩
  | tup es ih =>
    refine SAll.val rfl (fun X sc x G h => ?_) (fun sc x h => by cases x <;> simp [chkE, specialB] at h ⊢)
    cases x <;> simp only [chkE, Bool.false_eq_true] at h
    exact ⟨fun pins s σ H Q I hq => (pe_tup (ih.fl X sc _ G h)).run pins s σ H Q I (tup_step hq)⟩
  | lst es ih =>
    refine SAll.val rfl (fun X sc x G h => ?_) (fun sc x h => by cases x <;> simp [chkE, specialB] at h ⊢)
    cases x <;> simp only [chkE, Bool.false_eq_true] at h
    exact ⟨fun pins s σ H Q I hq => (pe_lst (ih.fl X sc _ G h)).run pins s σ H Q I (lst_step hq)⟩
  | call f rs es ih =>
    refine SAll.val rfl (fun X sc x G h => ?_) (fun sc x h => by cases x <;> simp [chkE, specialB] at h ⊢)
    cases x <;> simp only [chkE, Bool.false_eq_true] at h
    split at h <;> first | (cases h; done) | skip
    next he =>
      cases he
      simp only [Bool.and_eq_true, decide_eq_true_eq] at h
      obtain ⟨⟨⟨h1, h2⟩, h3⟩, h4⟩ := h
      exact call_pe G h1 h2 h3 h4 (ih.fl X sc _ G h4)
  | callk f perm es ih =>
    refine SAll.val rfl (fun X sc x G h => ?_) (fun sc x h => by cases x <;> simp [chkE, specialB] at h ⊢)
    cases x <;> simp only [chkE, Bool.false_eq_true] at h
    split at h <;> first | (cases h; done) | skip
    next he =>
      cases he
      simp only [Bool.and_eq_true, decide_eq_true_eq] at h
      obtain ⟨⟨⟨⟨⟨h1, h2⟩, h3⟩, h4⟩, h5⟩, h6⟩ := h
      exact callk_pe G h1 h2 h3 h4 (List.contains_iff_mem.mp h5) h6 (ih.fk X sc _ G h6)
  | bi b es ih =>
    refine SAll.val rfl (fun X sc x G h => ?_) (fun sc x h => ?_)
    · have hd1 : ∀ a, es = .cons a .nil → SE c tb F a := fun a e => (ih.hd a .nil e).1
      simp only [chkE] at h
      split at h
      · split at h
        · simp only [Bool.and_eq_true, Bool.not_eq_true'] at h
          exact lenSet_pe G h.1.1.1 h.1.1.2 h.2 hd1
        · cases h
      · split at h
        · simp only [Bool.and_eq_true] at h
          exact isLT_pe G h.1.1.1 h.1.1.2 h.1.2 h.2 hd1
        · cases h
      iterate 6
        · split at h
          · simp only [Bool.and_eq_true] at h
            exact isk_pe rfl G h.1.1 h.1.2 h.2 hd1
          · cases h
      · next n1 n2 n3 n4 n5 n6 n7 n8 =>
        split at h
        · simp only [Bool.and_eq_true] at h
          by_cases hs : b = .sorted
          · subst hs
            refine pe_abs fun σ H Q hq => ?_
            obtain ⟨z, env, d, S', C, E, e, q⟩ := hq
            obtain ⟨⟨ds, S1⟩, e1, e⟩ := obind e
            cases e
          · refine bi_plain G ?_ n2 n1 hs h.1 h.2 (ih.fl X sc _ G h.2)
            cases b <;> first | rfl | exact (n3 rfl).elim | exact (n4 rfl).elim | exact (n5 rfl).elim | exact (n6 rfl).elim | exact (n7 rfl).elim | exact (n8 rfl).elim
        · cases h
    · simp only [chkE] at h
      split at h
      all_goals
        split at h
        · rfl
        · cases h
  | mt m o es io ih =>
    refine SAll.val rfl (fun X sc x G h => ?_) (fun sc x h => by cases x <;> simp [chkE, specialB] at h ⊢)
    cases x <;> simp only [chkE, Bool.false_eq_true] at h
    split at h <;> first | (cases h; done) | skip
    next he =>
      cases he
      simp only [Bool.and_eq_true, decide_eq_true_eq, Bool.not_eq_true'] at h
      obtain ⟨⟨⟨⟨⟨h1, h2⟩, h3⟩, h4⟩, h5⟩, h6⟩ := h
      exact mt_pe G (io.fe X sc _ G h4) (ih.fl X sc _ G h5) h1 h2 h3 h5 h6
  | idx a i ia ii =>
    refine SAll.val rfl (fun X sc x G h => ?_) (fun sc x h => by cases x <;> simp [chkE, specialB] at h ⊢)
    cases x <;> simp only [chkE, Bool.and_eq_true, Bool.not_eq_true', Bool.false_eq_true] at h
    obtain ⟨⟨h1, h2⟩, h3⟩ := h
    exact ⟨fun pins s σ H Q I hq => (pe_ix ix_D (ia.fe X sc _ G h1) (ii.fe X sc _ G h2) (plain_ix h3)).run pins s σ H Q I (idx_step hq)⟩
  | sl a lo hi ia il ih =>
    refine SAll.val rfl (fun X sc x G h => ?_) (fun sc x h => by cases x <;> simp [chkE, specialB] at h ⊢)
    cases x <;> simp only [chkE, Bool.false_eq_true] at h
    split at h <;> first | (cases h; done) | skip
    next he =>
      cases he
      simp only [Bool.and_eq_true] at h
      obtain ⟨⟨h1, h2⟩, h3⟩ := h
      exact ⟨fun pins s σ H Q I hq => (pe_slice sl_D (ia.fe X sc _ G h1) (il.fo X sc _ G h2) (ih.fo X sc _ G h3)).run pins s σ H Q I (sl_step hq)⟩
  | slr a hi ia ih =>
    refine SAll.val rfl (fun X sc x G h => ?_) (fun sc x h => by cases x <;> simp [chkE, specialB] at h ⊢)
    cases x <;> simp only [chkE, Bool.false_eq_true] at h
    split at h <;> first | (cases h; done) | skip
    next he =>
      cases he
      simp only [Bool.and_eq_true] at h
      obtain ⟨h1, h2⟩ := h
      exact slr_pe (ia.fe X sc _ G h1) (ih.fo X sc _ G h2)
  | lc own tg it ifs el itg ii ift ie =>
    refine SAll.val rfl (fun X sc x G h => ?_) (fun sc x h => by cases x <;> simp [chkE, specialB] at h ⊢)
    have h0 := h
    cases x <;> simp only [chkE, Bool.false_eq_true] at h
    split at h <;> first | (cases h; done) | skip
    next he =>
      cases he
      exact lc_pe G h0 ii ift ie
  | thaw e ie =>
    refine SAll.mk' rfl (fun X sc x G h => ?_) (fun X sc x G h => ?_) (fun X sc op xs pos G h => ?_)
    · simp only [chkE] at h
      refine ⟨fun pins s σ H Q I hq => ?_⟩
      have hq' := hq
      obtain ⟨z, env, d, S', C, E, e0, q⟩ := hq
      simp only [evE] at e0
      split at e0
      · next hf =>
        have := ie.fe X sc x G h
        rw [hf] at this
        refine this.run pins s σ H Q I (thaw_step (fr := false) rfl ?_)
        exact ⟨z, env, d, S', C, E, e0, q⟩
      · cases e0
    · refine ⟨fun pins s σ H Q I hq => ?_⟩
      obtain ⟨z, env, d, S', C, E, e0, q⟩ := hq
      simp only [evE] at e0
      split at e0
      · obtain ⟨r, _, e0⟩ := obind e0
        split at e0 <;> cases e0
      · cases e0
    · refine ⟨fun wh pins s σ H Q I hq => ?_⟩
      obtain ⟨z, env, d, S', C, E, e0, q⟩ := hq
      simp only [evE] at e0
      split at e0
      · obtain ⟨r, _, e0⟩ := obind e0
        split at e0 <;> cases e0
      · cases e0
  | rng es ih =>
    refine ⟨fun X sc x G h => by simp [chkE] at h, fun X sc x G h => by simp [chkE] at h, fun X sc op xs pos G h => by simp [chkE] at h, fun X sc xs G h => by simp [chkL] at h, fun X sc kws G h => by simp [chkL] at h, fun X sc x G h => by simp [chkO] at h, fun X sc xs G h => by simp [chkT] at h, fun X sc tg x G h => ?_, fun a b h => by cases h⟩
    simp only [chkI] at h
    split at h <;> first | (cases h; done) | skip
    next fn xs pos =>
      simp only [Bool.and_eq_true, Bool.or_eq_true, beq_iff_eq] at h
      obtain ⟨⟨h1, h2⟩, h3⟩ := h
      obtain ⟨p, rfl, g⟩ := isName_inv h1
      have pa := ih.fl X sc xs G h2
      have hlen : ∀ env S ds S', evL tb F es env S = some (ds, S') → ds.length = xs.length := fun env S ds S' e => evL_len es xs env S ds S' h2 e
      rcases h3 with h3 | h3
      · obtain ⟨e, rfl⟩ : ∃ e, xs = [e] := by
          cases xs with
          | nil => cases h3
          | cons x r => cases r with
            | nil => exact ⟨x, rfl⟩
            | cons _ _ => simp at h3
        obtain ⟨a, rfl, hs, hc⟩ := chkL_one h2
        exact ⟨fun pins s σ H R I hq => (pi_range1 (gl_of G g) (G.bn _ (by decide +kernel)) pa (by rw [sEach hs]; rfl)).run pins s σ H R I ((rng_step 1 hlen hq).1 rfl)⟩
      · obtain ⟨e, f, rfl⟩ : ∃ e f, xs = [e, f] := by
          cases xs with
          | nil => cases h3
          | cons x r => cases r with
            | nil => cases h3
            | cons y r => cases r with
              | nil => exact ⟨x, y, rfl⟩
              | cons _ _ => simp at h3
        obtain ⟨a, b, rfl, hs, hc, hs2, hc2⟩ := chkL_two h2
        exact ⟨fun pins s σ H R I hq => (pi_range2 (gl_of G g) (G.bn _ (by decide +kernel)) pa (by rw [sEach hs, sEach hs2]; rfl) (by rw [sEach hs2]; rfl)).run pins s σ H R I ((rng_step 2 hlen hq).2 rfl)⟩
  | enumr e ie =>
    refine ⟨fun X sc x G h => by simp [chkE] at h, fun X sc x G h => by simp [chkE] at h, fun X sc op xs pos G h => by simp [chkE] at h, fun X sc xs G h => by simp [chkL] at h, fun X sc kws G h => by simp [chkL] at h, fun X sc x G h => by simp [chkO] at h, fun X sc xs G h => by simp [chkT] at h, fun X sc tg x G h => ?_, fun a b h => by cases h⟩
    simp only [chkI] at h
    split at h <;> first | (cases h; done) | skip
    next fn a pos ts k p =>
      simp only [Bool.and_eq_true, Bool.not_eq_true'] at h
      obtain ⟨⟨h1, h2⟩, h3⟩ := h
      obtain ⟨p, rfl, g⟩ := isName_inv h1
      exact ⟨fun pins s σ H R I hq => (pi_enum (gl_of G g) (G.bn _ (by decide +kernel)) (pa_cons (ie.fe X sc a G h3) pa_nil (sEach h2)) (by rw [sEach h2]; rfl)).run pins s σ H R I (enum_step hq)⟩
  | lrng es ih =>
    refine SAll.val rfl (fun X sc x G h => ?_) (fun sc x h => by cases x <;> simp [chkE, specialB] at h ⊢)
    cases x <;> simp only [chkE, Bool.false_eq_true] at h
    split at h <;> first | (cases h; done) | skip
    next he =>
      cases he
      simp only [Bool.and_eq_true, Bool.or_eq_true, beq_iff_eq] at h
      obtain ⟨⟨⟨h1, h2⟩, h3⟩, h4⟩ := h
      exact lrng_pe G h1 h2 h3 h4 ih.hd
  | _ => exact SAll.no rfl fun sc x => by cases x <;> rfl
end TW
end
section
set_option Elab.async false
set_option linter.all false
set_option maxRecDepth 100000
set_option maxHeartbeats 2000000
/-! TwStmt: statements' readings. -/
namespace TW
open PySem PySem.Spec PyProof.Rows L2

section
variable {K : PySem.W.Frag} {z : Zs} {H : Hp}
theorem StC.cut (C : StC K z H) (n : Nat) : StC K ⟨z.G, z.μ.take n, z.S.take n⟩ H ∧ Le (z.mask H) ((⟨z.G, z.μ.take n, z.S.take n⟩ : Zs).mask H) := by
  have tk : ∀ {α : Type} {l : List α} {i : Nat} {a : α}, (l.take n)[i]? = some a → l[i]? = some a := fun {α l i a} h => by
    have hi : i < (l.take n).length := (List.getElem?_eq_some_iff.mp h).1
    rw [List.length_take] at hi
    rwa [List.getElem?_take_of_lt (by omega)] at h
  have hb : ∀ b, (⟨z.G, z.μ.take n, z.S.take n⟩ : Zs).busy b → z.busy b := fun b h => by
    rcases h with h | ⟨i, c, h1, h2, h3⟩
    · exact .inl h
    · exact .inr ⟨i, c, tk h1, tk h2, h3⟩
  have hl : Le (z.mask H) ((⟨z.G, z.μ.take n, z.S.take n⟩ : Zs).mask H) := fun b o e => by
    obtain ⟨e1, e2⟩ := Zs.mask_some.mp e
    exact Zs.mask_some.mpr ⟨fun q => e1 (hb b q), e2⟩
  refine ⟨⟨by simp [List.length_take, C.len], C.nd.sublist (List.take_sublist _ _), fun g hg => ⟨fun h => (C.gm g hg).1 (List.mem_of_mem_take h), (C.gm g hg).2⟩, fun i a c h1 h2 => ?_⟩, hl⟩
  obtain ⟨xs, ds, q1, q2, q3⟩ := C.cl i a c (tk h1) (tk h2)
  exact ⟨xs, ds, q1, q2, q3.mono hl⟩
/-- new against a shorter store -/
def FrT (K : PySem.W.Frag) (n : Nat) (z : Zs) (H : Hp) (z' : Zs) (H' : Hp) (v : V) (d : PyData) : Prop :=
  ∀ ds, d = .list ds → ∃ a xs, v = .ref a ∧ H' a = some (.lst xs) ∧ a ∉ z'.G ∧ a ∉ z'.μ.take n ∧ StC K ⟨a :: z'.G, z'.μ.take n, z'.S.take n⟩ H' ∧ DqAll K ((⟨a :: z'.G, z'.μ.take n, z'.S.take n⟩ : Zs).mask H') xs ds ∧ Le (z.mask H) ((⟨a :: z'.G, z'.μ.take n, z'.S.take n⟩ : Zs).mask H')
theorem Fr.cut {z' : Zs} {H' : Hp} {v : V} {d : PyData} (n : Nat) (f : Fr K z H z' H' v d) : FrT K n z H z' H' v d := fun ds e => by
  obtain ⟨a, xs, h1, h2, h3, h4, h5, h6, h7⟩ := f ds e
  obtain ⟨c1, c2⟩ := h5.cut n
  exact ⟨a, xs, h1, h2, h3, fun h => h4 (List.mem_of_mem_take h), c1, h6.mono c2, h7.trans c2⟩
theorem FrT.before {n : Nat} {z1 z2 z3 : Zs} {H1 H2 H3 : Hp} {v : V} {d : PyData} (s : Sf z1 H1 z2 H2) (f : FrT K n z2 H2 z3 H3 v d) : FrT K n z1 H1 z3 H3 v d := fun ds e => by
  obtain ⟨a, xs, h1, h2, h3, h4, h5, h6, h7⟩ := f ds e
  exact ⟨a, xs, h1, h2, h3, h4, h5, h6, s.le.trans h7⟩
theorem unlock_take (lk : Option Nat) (S : Sto) (n : Nat) : (unlock lk S).take n = unlock lk (S.take n) := by
  cases lk with
  | none => rfl
  | some i =>
    unfold unlock
    simp only
    by_cases hi : i < n
    · rw [List.getElem?_take_of_lt hi]
      rcases e : S[i]? with _ | ⟨m, d⟩
      · rfl
      · rcases m with _ | _ | m
        · rfl
        · exact List.take_set
        · rfl
    · have h1 : (S.take n)[i]? = none := by
        rw [List.getElem?_eq_none]
        rw [List.length_take]
        omega
      rw [h1]
      rcases e : S[i]? with _ | ⟨m, d⟩
      · rfl
      · rcases m with _ | _ | m
        · rfl
        · show (S.set i (0, d)).take n = S.take n
          rw [List.take_set, List.set_eq_of_length_le (by rw [List.length_take]; omega)]
        · rfl
/-- unlocked: what stays -/
theorem FrT.unl {n : Nat} {z' : Zs} {H' : Hp} {v : V} {d : PyData} {lk : Option Nat} (hl : ∀ i, lk = some i → ∃ d, z'.S[i]? = some (1, d)) (f : FrT K n z H z' H' v d) : FrT K n z H { z' with S := unlock lk z'.S } H' v d := fun ds e => by
  obtain ⟨a, xs, h1, h2, h3, h4, h5, h6, h7⟩ := f ds e
  by_cases hn : ∀ i, lk = some i → i < n
  · have := unlock_ok h5 (lk := lk) fun i hi => by
      obtain ⟨d, hd⟩ := hl i hi
      exact ⟨d, by show (z'.S.take n)[i]? = _; rw [List.getElem?_take_of_lt (hn i hi)]; exact hd⟩
    obtain ⟨u1, u2, _⟩ := this
    have es : (⟨a :: z'.G, z'.μ.take n, unlock lk (z'.S.take n)⟩ : Zs) = ⟨a :: z'.G, z'.μ.take n, (unlock lk z'.S).take n⟩ := by rw [unlock_take]
    refine ⟨a, xs, h1, h2, h3, h4, by rw [← es]; exact u1, ?_, ?_⟩
    · show DqAll K ((⟨a :: z'.G, z'.μ.take n, (unlock lk z'.S).take n⟩ : Zs).mask H') xs ds
      rw [← es]
      exact (show (⟨a :: z'.G, z'.μ.take n, unlock lk (z'.S.take n)⟩ : Zs).mask H' = _ from u2) ▸ h6
    · show Le (z.mask H) ((⟨a :: z'.G, z'.μ.take n, (unlock lk z'.S).take n⟩ : Zs).mask H')
      rw [← es]
      exact (show (⟨a :: z'.G, z'.μ.take n, unlock lk (z'.S.take n)⟩ : Zs).mask H' = _ from u2) ▸ h7
  · have es : unlock lk (z'.S.take n) = z'.S.take n := by
      cases lk with
      | none => rfl
      | some i =>
        have hi : ¬ i < n := fun h => hn fun j e => by cases e; exact h
        unfold TW.unlock
        have h1 : (z'.S.take n)[i]? = none := by
          rw [List.getElem?_eq_none]
          rw [List.length_take]
          omega
        simp only [h1]
    have es2 : (unlock lk z'.S).take n = z'.S.take n := by rw [unlock_take, es]
    refine ⟨a, xs, h1, h2, h3, h4, ?_, ?_, ?_⟩
    · show StC K ⟨a :: z'.G, z'.μ.take n, (unlock lk z'.S).take n⟩ H'
      rw [es2]; exact h5
    · show DqAll K ((⟨a :: z'.G, z'.μ.take n, (unlock lk z'.S).take n⟩ : Zs).mask H') xs ds
      rw [es2]; exact h6
    · show Le (z.mask H) ((⟨a :: z'.G, z'.μ.take n, (unlock lk z'.S).take n⟩ : Zs).mask H')
      rw [es2]; exact h7
end

abbrev Sf0 := Evn → Sto → Option Out
def Post (K : PySem.W.Frag) (n : Nat) (z : Zs) (H : Hp) (D : Ends) : Out → Prop
  | .nx env S => ∀ z' σ' H', z'.S = S → StC K z' H' → Sf z H z' H' → EvOk K z' H' env σ' → D.nx σ' H'
  | .bk env S => ∀ z' σ' H', z'.S = S → StC K z' H' → Sf z H z' H' → EvOk K z' H' env σ' → D.bk σ' H'
  | .ct env S => ∀ z' σ' H', z'.S = S → StC K z' H' → Sf z H z' H' → EvOk K z' H' env σ' → D.ct σ' H'
  | .rt d fr S => ∀ z' v H', z'.S = S → StC K z' H' → Sf z H z' H' → Dq K (z'.mask H') v d → (fr = true → FrT K n z H z' H' v d) → D.rt v H'
theorem Post.before {K : PySem.W.Frag} {n : Nat} {z z1 : Zs} {H H1 : Hp} {D : Ends} (F : Sf z H z1 H1) : ∀ {o : Out}, Post K n z H D o → Post K n z1 H1 D o
  | .nx _ _, p => fun z' σ' H' s C' F' E' => p z' σ' H' s C' (F.trans F') E'
  | .bk _ _, p => fun z' σ' H' s C' F' E' => p z' σ' H' s C' (F.trans F') E'
  | .ct _ _, p => fun z' σ' H' s C' F' E' => p z' σ' H' s C' (F.trans F') E'
  | .rt _ _ _, p => fun z' v H' s C' F' D' f => p z' v H' s C' (F.trans F') D' fun h => (f h).before F
def tS (K : PySem.W.Frag) (n : Nat) (g : Sf0) : TS := fun D σ H => ∃ z env o, StC K z H ∧ EvOk K z H env σ ∧ g env z.S = some o ∧ Post K n z H D o

section
variable {K : PySem.W.Frag} {n : Nat} {D : Ends} {σ : L2.St} {H : Hp} {tb : Tb} {F : Clf} {W : Nat}
theorem seq_step {a b : T} (h : tS K n (evB tb F W n (.cons a b)) D σ H) : tSeq (tS K n (evS tb F W n a)) (tS K n (evB tb F W n b)) D σ H := by
  obtain ⟨z, env, o, C, E, e, P⟩ := h
  simp only [evB] at e
  obtain ⟨o1, e1, e⟩ := obind e
  refine ⟨z, env, o1, C, E, e1, ?_⟩
  cases o1 with
  | nx env1 S1 => exact fun z' σ' H' s C' F' E' => ⟨z', env1, o, C', E', by rw [s]; exact e, P.before F'⟩
  | rt d f S1 => cases e; exact P
  | bk env1 S1 => cases e; exact P
  | ct env1 S1 => cases e; exact P
theorem nil_step (h : tS K n (evB tb F W n .nil) D σ H) : tNext D σ H := by
  obtain ⟨z, env, o, C, E, e, P⟩ := h
  simp only [evB] at e
  cases e
  exact P z σ H rfl C (Sf.refl z H) E
theorem pas_step (h : tS K n (evS tb F W n .pas) D σ H) : tNext D σ H := by
  obtain ⟨z, env, o, C, E, e, P⟩ := h
  simp only [evS] at e
  cases e
  exact P z σ H rfl C (Sf.refl z H) E
theorem brk_step (h : tS K n (evS tb F W n .brk) D σ H) : tBreak D σ H := by
  obtain ⟨z, env, o, C, E, e, P⟩ := h
  simp only [evS] at e
  cases e
  exact P z σ H rfl C (Sf.refl z H) E
theorem cnt_step (h : tS K n (evS tb F W n .cnt) D σ H) : tCont D σ H := by
  obtain ⟨z, env, o, C, E, e, P⟩ := h
  simp only [evS] at e
  cases e
  exact P z σ H rfl C (Sf.refl z H) E
theorem asg_step {tg e : T} (h : tS K n (evS tb F W n (.asg tg e)) D σ H) : tAsg (tE K (evE tb F e) (frE tb e)) (tG K tg) D σ H := by
  obtain ⟨z, env, o, C, E, e0, P⟩ := h
  simp only [evS] at e0
  obtain ⟨r, e1, e0⟩ := obind e0
  obtain ⟨q, e2, e0⟩ := obind e0
  obtain ⟨env', e3, e0⟩ := omap e0
  cases e0
  refine ⟨z, env, r.1, r.2, C, E, e1, fun z1 v1 H1 s1 C1 F1 R1 _ => ?_⟩
  obtain ⟨z2, s2, _, _, C2, F2, D2⟩ := settle_ok C1 R1 (show settle z1.S r.1 = some (q.1, q.2) by rw [s1]; exact e2)
  exact ⟨z2, env, q.1, env', C2, (E.mono F1).mono F2, .inl D2, .inl D2.noCel, e3, fun σ' E' _ => P z2 σ' H1 s2 C2 (F1.trans F2) E'⟩
theorem asgN_step {k : Nat} {e : T} (h : tS K n (evS tb F W n (.asg (.var k) e)) D σ H) : tAsg (tE K (evE tb F e) (frE tb e)) (gName k) D σ H := by
  obtain ⟨z, env, o, C, E, e0, P⟩ := h
  simp only [evS] at e0
  obtain ⟨r, e1, e0⟩ := obind e0
  obtain ⟨q, e2, e0⟩ := obind e0
  obtain ⟨env', e3, e0⟩ := omap e0
  cases e0
  refine ⟨z, env, r.1, r.2, C, E, e1, fun z1 v1 H1 s1 C1 F1 R1 _ => ?_⟩
  obtain ⟨z2, s2, _, _, C2, F2, D2⟩ := settle_ok C1 R1 (show settle z1.S r.1 = some (q.1, q.2) by rw [s1]; exact e2)
  simp only [bindT] at e3
  split at e3
  · cases e3
    exact P z2 _ H1 s2 C2 (F1.trans F2) (((E.mono F1).mono F2).set (.inl D2))
  · cases e3
theorem asgm_step {k : Nat} {e : T} (h : tS K n (evS tb F W n (.asgm k e)) D σ H) : tAsg (tE K (evE tb F e) (frE tb e)) (gName k) D σ H := by
  obtain ⟨z, env, o, C, E, e0, P⟩ := h
  simp only [evS] at e0
  split at e0
  · next hc =>
    simp only [Bool.and_eq_true, decide_eq_true_eq] at hc
    obtain ⟨⟨d1, S1⟩, e1, e0⟩ := obind e0
    simp only at e0
    split at e0
    · next ds hd =>
      cases e0
      refine ⟨z, env, _, S1, C, E, e1, fun z1 v1 H1 s1 C1 F1 R1 f1 => ?_⟩
      obtain ⟨a, z2, rfl, s2, m2, C2, F2, R2⟩ := thaw_ok C1 F1 (f1 hc.1)
      subst s1
      exact P z2 _ H1 s2 C2 F2 ((E.mono F2).set R2)
    · cases e0
  · cases e0
theorem ex_step {e : T} (h : tS K n (evS tb F W n (.ex e)) D σ H) : tDrop (tE K (evE tb F e) (frE tb e)) D σ H := by
  obtain ⟨z, env, o, C, E, e0, P⟩ := h
  simp only [evS] at e0
  obtain ⟨r, e1, e0⟩ := omap e0
  cases e0
  exact ⟨z, env, r.1, r.2, C, E, e1, fun z1 v1 H1 s1 C1 F1 R1 _ => P z1 σ H1 s1 C1 F1 (E.mono F1)⟩
theorem ret_step {e : T} (h : tS K n (evS tb F W n (.ret e)) D σ H) : tRet (tE K (evE tb F e) (frE tb e)) D σ H := by
  obtain ⟨z, env, o, C, E, e0, P⟩ := h
  simp only [evS] at e0
  obtain ⟨r, e1, e0⟩ := obind e0
  obtain ⟨q, e2, e0⟩ := omap e0
  cases e0
  refine ⟨z, env, r.1, r.2, C, E, e1, fun z1 v1 H1 s1 C1 F1 R1 f1 => ?_⟩
  have e2' : settle z1.S r.1 = some (q.1, q.2) := by rw [s1]; exact e2
  rcases R1 with R1 | ⟨i, a, hc, hm, hv⟩
  · have hs : settle z1.S r.1 = some (r.1, z1.S) := by unfold settle; rw [R1.noCel]
    rw [hs] at e2'
    obtain ⟨eq1, eq2⟩ : r.1 = q.1 ∧ z1.S = q.2 := by
      exact Prod.mk.inj (Option.some.inj e2')
    exact P z1 v1 H1 eq2 C1 F1 (eq1 ▸ R1) fun hf => by
      simp only [Bool.and_eq_true] at hf
      exact eq1 ▸ (f1 hf.1).cut n
  · obtain ⟨z2, s2, _, _, C2, F2, D2⟩ := settle_ok C1 (.inr ⟨i, a, hc, hm, hv⟩) e2'
    refine P z2 v1 H1 s2 C2 (F1.trans F2) D2 fun hf => ?_
    simp only [Bool.and_eq_true, hc, celOf_cel, Option.isNone_some, Bool.false_eq_true, and_false] at hf
theorem ret_fresh {z : Zs} {i : Nat} {a : Addr} {c : PyData} (C : StC K z H) (hc : z.S[i]? = some (0, c)) (ha : z.μ[i]? = some a) (hn : n ≤ i) : FrT K n z H { z with S := z.S.set i (2, c) } H (.ref a) c := fun ds eds => by
  subst eds
  obtain ⟨xs, ds', q1, q2, q3⟩ := C.cl i a _ ha hc
  cases q1
  have aG : a ∉ z.G := fun hg => (C.gm a hg).1 (List.mem_of_getElem? ha)
  have aT : a ∉ z.μ.take n := fun hm => by
    obtain ⟨j, hj, ej⟩ := List.getElem_of_mem hm
    rw [List.length_take] at hj
    have hj2 : z.μ[j]? = some a := by
      rw [List.getElem_take] at ej
      rw [List.getElem?_eq_getElem (by omega), ej]
    have := mu_inj C hj2 ha
    omega
  obtain ⟨C1, L1⟩ := C.cut n
  have busyA : z.busy a := .inr ⟨i, _, ha, hc, (by decide : (0 : Nat) ≠ 2)⟩
  have hst : (z.S.set i (2, .list ds)).take n = z.S.take n := by
    rw [List.take_set, List.set_eq_of_length_le (by rw [List.length_take]; omega)]
  have hb : ∀ b, (⟨a :: z.G, z.μ.take n, z.S.take n⟩ : Zs).busy b → b = a ∨ (⟨z.G, z.μ.take n, z.S.take n⟩ : Zs).busy b := fun b h => by
    unfold Zs.busy at h ⊢
    simp only [List.mem_cons] at h
    rcases h with (h | h) | h
    · exact .inl h
    · exact .inr (.inl h)
    · exact .inr (.inr h)
  have L : Le (z.mask H) ((⟨a :: z.G, z.μ.take n, z.S.take n⟩ : Zs).mask H) := fun b o e => by
    obtain ⟨e1, e2⟩ := Zs.mask_some.mp e
    refine Zs.mask_some.mpr ⟨fun q => ?_, e2⟩
    rcases hb b q with rfl | q
    · exact e1 busyA
    · exact (Zs.mask_some.mp (L1 b o e)).1 q
  refine ⟨a, xs, rfl, q2, aG, aT, ?_, ?_, ?_⟩
  · show StC K ⟨a :: z.G, z.μ.take n, (z.S.set i (2, .list ds)).take n⟩ H
    rw [hst]
    refine ⟨C1.len, C1.nd, fun g hg => ?_, fun j b c h1 h2 => ?_⟩
    · rcases List.mem_cons.mp hg with rfl | hg
      · exact ⟨aT, by rw [q2]; simp⟩
      · exact C1.gm g hg
    · have tk : ∀ {α : Type} {l : List α} {i : Nat} {a : α}, (l.take n)[i]? = some a → l[i]? = some a := fun {α l i a} h => by
        have hi : i < (l.take n).length := (List.getElem?_eq_some_iff.mp h).1
        rw [List.length_take] at hi
        rwa [List.getElem?_take_of_lt (by omega)] at h
      obtain ⟨ys, es, p1, p2, p3⟩ := C.cl j b c (tk h1) (tk h2)
      exact ⟨ys, es, p1, p2, p3.mono L⟩
  · show DqAll K ((⟨a :: z.G, z.μ.take n, (z.S.set i (2, .list ds)).take n⟩ : Zs).mask H) xs ds
    rw [hst]; exact q3.mono L
  · show Le (z.mask H) ((⟨a :: z.G, z.μ.take n, (z.S.set i (2, .list ds)).take n⟩ : Zs).mask H)
    rw [hst]; exact L
theorem retm_step {k : Nat} (h : tS K n (evS tb F W n (.retm k)) D σ H) : ∃ v, σ[k]? = some (some v) ∧ D.rt v H := by
  obtain ⟨z, env, o, C, E, e0, P⟩ := h
  simp only [evS] at e0
  split at e0
  · next d hd =>
    obtain ⟨v, hv, R⟩ := E.ev k d hd
    refine ⟨v, hv, ?_⟩
    split at e0
    · next i hi =>
      obtain rfl := of_celOf hi
      have R := R.cel
      rcases R with R | ⟨j, a, ej, hm, rfl⟩
      · have := R.noCel; rw [celOf_cel] at this; cases this
      · obtain rfl : i = j := by
          have := congrArg celOf ej
          rw [celOf_cel, celOf_cel] at this
          exact Option.some.inj this
        split at e0
        · next c hc =>
          cases e0
          obtain ⟨c1, c2, c3⟩ := C.freeze hc
          exact P _ _ H rfl c1 c2 (c3 a hm) fun hn => ret_fresh C hc hm (of_decide_eq_true hn)
        · next c hc =>
          cases e0
          exact P z _ H rfl C (Sf.refl z H) (Zs.frozen_free C hc hm) fun h => by cases h
        · cases e0
    · cases e0
  · cases e0
theorem retn_step (h : tS K n (evS tb F W n .retn) D σ H) : tRetN D σ H := by
  obtain ⟨z, env, o, C, E, e0, P⟩ := h
  simp only [evS] at e0
  cases e0
  exact P z _ H rfl C (Sf.refl z H) .non fun _ ds e => by cases e
theorem iff_step {c a b : T} (h : tS K n (evS tb F W n (.iff c a b)) D σ H) : tIfS (tT K (evE tb F c)) (tS K n (evB tb F W n a)) (tS K n (evB tb F W n b)) D σ H := by
  obtain ⟨z, env, o, C, E, e0, P⟩ := h
  simp only [evS] at e0
  obtain ⟨⟨d1, S1⟩, e1, e0⟩ := obind e0
  obtain ⟨k, e2, e0⟩ := obind e0
  obtain rfl := true_inv e2
  refine ⟨z, env, k, S1, C, E, e1, fun z1 H1 s1 C1 F1 => ?_⟩
  cases k with
  | true =>
    simp only [if_true] at e0 ⊢
    exact ⟨z1, env, o, C1, E.mono F1, by rw [s1]; exact e0, P.before F1⟩
  | false =>
    simp only [if_false, Bool.false_eq_true] at e0 ⊢
    exact ⟨z1, env, o, C1, E.mono F1, by rw [s1]; exact e0, P.before F1⟩
theorem whl_step {c b : T} (h : tS K n (evS tb F W n (.whl c b)) D σ H) : tWhile (tT K (evE tb F c)) (tS K n (evB tb F W n b)) D σ H := by
  obtain ⟨z, env, o, C, E, e0, P⟩ := h
  simp only [evS] at e0
  generalize hw : W = w at e0
  refine ⟨fun m σ' H' => ∃ z1 env1, StC K z1 H' ∧ EvOk K z1 H' env1 σ' ∧ Sf z H z1 H' ∧ whlLoop (fun e1 S1 => (evE tb F c e1 S1).bind fun r => (isTrueD r.1).map fun k => (k, r.2)) (fun e1 S1 => evB tb F W n b e1 S1) m env1 z1.S = some o, ⟨w, z, env, C, E, Sf.refl z H, by rw [← hw]; rw [← hw] at e0; exact e0⟩, ?_⟩
  rintro m σ' H' ⟨z1, env1, C1, E1, F1, e1⟩
  cases m with
  | zero => cases e1
  | succ m =>
    simp only [whlLoop] at e1
    obtain ⟨⟨k, S2⟩, t1, e1⟩ := obind e1
    obtain ⟨⟨d2, S2'⟩, t2, t1⟩ := obind t1
    obtain ⟨k', t3, t1⟩ := omap t1
    cases t1
    obtain rfl := true_inv t3
    refine ⟨z1, env1, k, S2', C1, E1, t2, fun z2 H2 s2 C2 F2 => ?_⟩
    cases k with
    | false =>
      simp only [if_false, Bool.false_eq_true] at e1 ⊢
      cases e1
      exact P z2 σ' H2 s2 C2 (F1.trans F2) (E1.mono F2)
    | true =>
      simp only [if_true] at e1 ⊢
      obtain ⟨o1, t4, e1⟩ := obind e1
      refine ⟨fun σ'' H'' => ∃ z3 env3, StC K z3 H'' ∧ EvOk K z3 H'' env3 σ'' ∧ Sf z H z3 H'' ∧ whlLoop (fun e1 S1 => (evE tb F c e1 S1).bind fun r => (isTrueD r.1).map fun k => (k, r.2)) (fun e1 S1 => evB tb F W n b e1 S1) m env3 z3.S = some o, fun σ'' H'' h => ⟨m, Nat.lt_succ_self m, h⟩, z2, env1, o1, C2, E1.mono F2, by rw [s2]; first | exact t4 | (rw [hw] at t4; exact t4) | (rw [← hw]; exact t4), ?_⟩
      cases o1 with
      | nx env2 S3 => exact fun z3 σ3 H3 s3 C3 F3 E3 => ⟨z3, env2, C3, E3, F1.trans (F2.trans F3), by rw [s3]; exact e1⟩
      | ct env2 S3 => exact fun z3 σ3 H3 s3 C3 F3 E3 => ⟨z3, env2, C3, E3, F1.trans (F2.trans F3), by rw [s3]; exact e1⟩
      | bk env2 S3 =>
        cases e1
        exact fun z3 σ3 H3 s3 C3 F3 E3 => P z3 σ3 H3 s3 C3 (F1.trans (F2.trans F3)) E3
      | rt d f S3 =>
        cases e1
        exact fun z3 v H3 s3 C3 F3 D3 f3 => P z3 v H3 s3 C3 (F1.trans (F2.trans F3)) D3 fun hf => (f3 hf).before (F1.trans F2)

theorem unl {z z2 : Zs} {H H' : Hp} {lk : Option Nat} (F2 : Sf z H z2 H') (C2 : StC K z2 H') (hl : ∀ i, lk = some i → ∃ d, z2.S[i]? = some (1, d)) (hn : ∀ i, lk = some i → ∀ c, z.S[i]? ≠ some (1, c)) :
    StC K { z2 with S := unlock lk z2.S } H' ∧ Sf z H { z2 with S := unlock lk z2.S } H' ∧ (∀ env σ, EvOk K z2 H' env σ → EvOk K { z2 with S := unlock lk z2.S } H' env σ) ∧
      ∀ v d, Dq K (z2.mask H') v d → Dq K (({ z2 with S := unlock lk z2.S } : Zs).mask H') v d := by
  obtain ⟨u1, u2, u3⟩ := unlock_ok C2 hl
  refine ⟨u1, ⟨F2.g, F2.ex, by rw [u2]; exact F2.le, F2.gh, fun i c e => u3 i _ (fun q => hn i q c e) (F2.lk i c e)⟩, fun env σ E => ⟨E.el, fun k d e => ?_⟩, fun v d h => by rw [u2]; exact h⟩
  obtain ⟨v, h1, h2⟩ := E.ev k d e
  refine ⟨v, h1, ?_⟩
  rcases h2 with (h2 | h2) | ⟨a, js, xs, g1, g2, g3, g4⟩
  · exact .inl (.inl (by rw [u2]; exact h2))
  · exact .inl (.inr h2)
  · exact .inr ⟨a, js, xs, g1, g2, by rw [u2]; exact g3, g4⟩
theorem for_step {tg it b : T} (h : tS K n (evS tb F W n (.forr tg it b)) D σ H) : tFor (tI K (evI tb F it)) (tG K tg) (tS K n (evB tb F W n b)) D σ H := by
  obtain ⟨z, env, o, C, E, e0, P⟩ := h
  simp only [evS] at e0
  obtain ⟨⟨ds, S1, lk⟩, e1, e0⟩ := obind e0
  obtain ⟨o1, e2, e0⟩ := omap e0
  subst e0
  refine ⟨z, env, ds, S1, lk, C, E, e1, fun z1 J H1 s1 C1 F1 wk hlk => ?_⟩
  have hl1 : ∀ i, lk = some i → ∃ d, z1.S[i]? = some (1, d) := fun i hi => by rw [s1]; exact (hlk i hi).1
  have hn1 : ∀ i, lk = some i → ∀ c, z.S[i]? ≠ some (1, c) := fun i hi => (hlk i hi).2
  have U : ∀ {z2 : Zs} {H2 : Hp}, Sf z1 H1 z2 H2 → StC K z2 H2 → _ := fun {z2 H2} F2 C2 => unl (F1.trans F2) C2 (lk := lk) (fun i hi => by
    obtain ⟨d, hd⟩ := hl1 i hi
    exact ⟨d, F2.lk i d hd⟩) hn1
  refine ⟨fun i m σ' H' => m = ds.length - i ∧ i ≤ ds.length ∧ ∃ z2 env2, StC K z2 H' ∧ EvOk K z2 H' env2 σ' ∧ Sf z1 H1 z2 H' ∧ forLoop tg (fun e1 S1 => evB tb F W n b e1 S1) (ds.drop i) env2 z2.S = some o1,
    ⟨_, rfl, Nat.zero_le _, z1, env, C1, E.mono F1, Sf.refl _ _, by rw [s1, List.drop_zero]; exact e2⟩, ?_⟩
  rintro i m σ' H' ⟨rfl, hi, z2, env2, C2, E2, F2, e3⟩
  obtain ⟨w1, w2, w3⟩ := wk i z2 H' C2 F2.sg
  by_cases hlt : i < ds.length
  · refine .inr ⟨w1 hlt, fun σ4 H4 => ∃ z4 env4, StC K z4 H4 ∧ EvOk K z4 H4 env4 σ4 ∧ Sf z1 H1 z4 H4 ∧ forLoop tg (fun e1 S1 => evB tb F W n b e1 S1) (ds.drop (i + 1)) env4 z4.S = some o1,
      fun σ4 H4 h => ⟨ds.length - (i + 1), by omega, rfl, by omega, h⟩, fun x H3 hy => ?_⟩
    obtain ⟨d, hd, C3, F3, D3⟩ := w3 x H3 hlt hy
    have hdrop : ds.drop i = d :: ds.drop (i + 1) := by
      rw [List.drop_eq_getElem_cons hlt]
      rw [List.getElem?_eq_getElem hlt] at hd
      rw [Option.some.inj hd]
    rw [hdrop] at e3
    simp only [forLoop] at e3
    obtain ⟨env3, e4, e3⟩ := obind e3
    obtain ⟨o2, e5, e3⟩ := obind e3
    refine ⟨z2, env2, d, env3, C3, E2.mono F3, .inl D3, .inl D3.noCel, e4, fun σ3 E3 _ => ⟨z2, env3, o2, C3, E3, e5, ?_⟩⟩
    cases o2 with
    | nx env4 S4 => exact fun z4 σ4 H4 s4 C4 F4 E4 => ⟨z4, env4, C4, E4, F2.trans (F3.trans F4), by rw [s4]; exact e3⟩
    | ct env4 S4 => exact fun z4 σ4 H4 s4 C4 F4 E4 => ⟨z4, env4, C4, E4, F2.trans (F3.trans F4), by rw [s4]; exact e3⟩
    | bk env4 S4 =>
      cases e3
      intro z4 σ4 H4 s4 C4 F4 E4
      obtain ⟨u1, u2, u3, _⟩ := U (F2.trans (F3.trans F4)) C4
      exact P _ σ4 H4 (by show unlock lk z4.S = _; rw [s4]) u1 u2 (u3 _ _ E4)
    | rt d' f S4 =>
      cases e3
      intro z4 v H4 s4 C4 F4 D4 f4
      obtain ⟨u1, u2, u3, u4⟩ := U (F2.trans (F3.trans F4)) C4
      refine P _ v H4 (by show unlock lk z4.S = _; rw [s4]) u1 u2 (u4 _ _ D4) fun hf => ?_
      exact ((f4 hf).before (F1.trans (F2.trans F3))).unl fun j hj => by
        obtain ⟨d, hd⟩ := hl1 j hj
        exact ⟨d, F4.lk j d (F3.lk j d (F2.lk j d hd))⟩
  · have hi2 : i = ds.length := by omega
    refine .inl ⟨w2 hi2, ?_⟩
    rw [hi2, List.drop_length] at e3
    simp only [forLoop] at e3
    cases e3
    obtain ⟨u1, u2, u3, _⟩ := U F2 C2
    exact P _ σ' H' rfl u1 u2 (u3 _ _ E2)
theorem par2_step {i j : Nat} {f g : Bool} {es : T} (h : tS K n (evS tb F W n (.par [(i, f), (j, g)] es)) D σ H) : tPar i j (tA K (evL tb F es)) D σ H := by
  obtain ⟨z, env, o, C, E, e0, P⟩ := h
  simp only [evS] at e0
  obtain ⟨r, e1, e0⟩ := obind e0
  obtain ⟨q, e2, e0⟩ := obind e0
  obtain ⟨env', e3, e0⟩ := omap e0
  cases e0
  refine ⟨z, env, r.1, r.2, C, E, e1, fun z1 vs H1 s1 C1 F1 R1 => ?_⟩
  obtain ⟨z2, s2, _, _, C2, F2, R2⟩ := settleBy_ok C1 R1 (show settleBy _ z1.S r.1 = some (q.1, q.2) by rw [s1]; exact e2)
  generalize hq : q.1 = q1 at e3 R2
  cases R2 with
  | nil => simp [setsE] at e3
  | cons a b =>
    cases b with
    | nil => simp [setsE] at e3
    | cons b b2 =>
      cases b2 with
      | cons _ _ => simp [setsE] at e3
      | nil =>
        simp only [setsE] at e3
        split at e3
        · split at e3
          · cases e3
            exact ⟨_, _, rfl, P z2 _ H1 s2 C2 (F1.trans F2) ((((E.mono F1).mono F2).set a).set b)⟩
          · cases e3
        · cases e3
theorem par3_step {i j l : Nat} {f g u : Bool} {es : T} (h : tS K n (evS tb F W n (.par [(i, f), (j, g), (l, u)] es)) D σ H) : tPar3 i j l (tA K (evL tb F es)) D σ H := by
  obtain ⟨z, env, o, C, E, e0, P⟩ := h
  simp only [evS] at e0
  obtain ⟨r, e1, e0⟩ := obind e0
  obtain ⟨q, e2, e0⟩ := obind e0
  obtain ⟨env', e3, e0⟩ := omap e0
  cases e0
  refine ⟨z, env, r.1, r.2, C, E, e1, fun z1 vs H1 s1 C1 F1 R1 => ?_⟩
  obtain ⟨z2, s2, _, _, C2, F2, R2⟩ := settleBy_ok C1 R1 (show settleBy _ z1.S r.1 = some (q.1, q.2) by rw [s1]; exact e2)
  generalize hq : q.1 = q1 at e3 R2
  cases R2 with
  | nil => simp [setsE] at e3
  | cons a b =>
    cases b with
    | nil => simp [setsE] at e3
    | cons b b2 =>
      cases b2 with
      | nil => simp [setsE] at e3
      | cons d d2 =>
        cases d2 with
        | cons _ _ => simp [setsE] at e3
        | nil =>
          simp only [setsE] at e3
          split at e3
          · split at e3
            · split at e3
              · cases e3
                exact ⟨_, _, _, rfl, P z2 _ H1 s2 C2 (F1.trans F2) (((((E.mono F1).mono F2).set a).set b).set d)⟩
              · cases e3
            · cases e3
          · cases e3
theorem asgi_step {k : Nat} {i e : T} (h : tS K n (evS tb F W n (.asgi k i e)) D σ H) : tAsg (tE K (evE tb F e) (frE tb e)) (gSub (fun σ H Q => ∃ v, σ[k]? = some (some v) ∧ Q v H) (tE K (evE tb F i) (frE tb i)) rSetL) D σ H := by
  obtain ⟨z, env, o, C, E, e0, P⟩ := h
  simp only [evS] at e0
  obtain ⟨r, e1, e0⟩ := obind e0
  obtain ⟨q, e2, e0⟩ := obind e0
  obtain ⟨⟨j1, S3⟩, e3, e0⟩ := obind e0
  refine ⟨z, env, r.1, r.2, C, E, e1, fun z1 v1 H1 s1 C1 F1 R1 _ => ?_⟩
  obtain ⟨z2, s2, _, _, C2, F2, D2⟩ := settle_ok C1 R1 (show settle z1.S r.1 = some (q.1, q.2) by rw [s1]; exact e2)
  have E2 := (E.mono F1).mono F2
  simp only at e0
  split at e0
  · next d m hd =>
    split at e0
    · next c hc =>
      split at e0
      · next xs hxs =>
        obtain ⟨p, e4, e0⟩ := omap e0
        cases e0
        obtain ⟨v, hv, R⟩ := E2.ev k d hd
        obtain rfl := of_celOf hc
        have R := R.cel
        rcases R with R | ⟨j, a, ej, hm2, rfl⟩
        · have := R.noCel; rw [celOf_cel] at this; cases this
        · obtain rfl : c = j := by
            have := congrArg celOf ej
            rw [celOf_cel, celOf_cel] at this
            exact Option.some.inj this
          refine ⟨_, hv, z2, env, _, S3, C2, E2, by rw [s2]; exact e3, fun z3 v3 H3 s3 C3 F3 R3 _ => ?_⟩
          have hv3 := R3.int
          have ha : z3.μ[c]? = some a := F3.mu hm2
          have hx : z3.S[c]? = some (0, .list xs) := by rw [s3]; exact hxs
          obtain ⟨ys, ds, q1, q2, q3⟩ := C3.cl c a _ ha hx
          cases q1
          obtain ⟨c1, c2⟩ := C3.put (c' := (0, .list (xs.set p q.1))) hx rfl ha (by decide : (0 : Nat) ≠ 2) (by decide : (0 : Nat) = 1 → False) rfl (q3.set (D2.mono F3.le) p)
          refine ⟨a, ys, m, p, rfl, hv3, q2, by rw [q3.len]; exact e4, ?_⟩
          exact P _ σ _ (by show z3.S.set c _ = _; rw [s3]) c1 (F1.trans (F2.trans (F3.trans c2))) ((E2.mono F3).mono c2)
      · cases e0
    · cases e0
  · cases e0
end
end TW
end
section
set_option Elab.async false
set_option linter.all false
set_option maxRecDepth 100000
set_option maxHeartbeats 2000000
/-! TwRow: lists of changing lists. -/
namespace TW
open PySem PySem.Spec PyProof.Rows L2

theorem paired_get {α β : Type} {R : α → β → Prop} {xs : List α} {ys : List β} (h : Paired R xs ys) {i : Nat} {y : β} (e : ys[i]? = some y) : ∃ x, xs[i]? = some x ∧ R x y := by
  induction h generalizing i with
  | nil => simp at e
  | cons a b ih =>
    cases i with
    | zero => simp at e; subst e; exact ⟨_, rfl, a⟩
    | succ i => simpa using ih (by simpa using e)
section
variable {K : PySem.W.Frag} {n : Nat} {D : Ends} {σ : L2.St} {H : Hp} {tb : Tb} {F : Clf} {W : Nat}
theorem Gr.of_name {z : Zs} {v : V} {js : List Nat} (h : Rg K z H v (grD js)) : ∃ (a : Addr) (xs : List V), v = .ref a ∧ z.mask H a = some (.lst xs) ∧ Paired (fun (x : V) (j : Nat) => ∃ b, x = .ref b ∧ z.μ[j]? = some b) xs js := by
  rcases h with (h | ⟨i, a, e, _, _⟩) | ⟨a, js', xs, e, h2, h3, h4⟩
  · cases h
  · cases e
  · have := congrArg grOf e
    rw [grOf_grD, grOf_grD] at this
    cases this
    exact ⟨a, xs, h2, h3, h4⟩
theorem freeze_all : ∀ (js : List Nat) (xs : List V) (z : Zs) (rs : List PyData) (S' : Sto), StC K z H → Paired (fun (x : V) (j : Nat) => ∃ b, x = .ref b ∧ z.μ[j]? = some b) xs js → freezeAll z.S js = some (rs, S') →
    ∃ z', z'.S = S' ∧ StC K z' H ∧ Sf z H z' H ∧ DqAll K (z'.mask H) xs rs
  | [], xs, z, rs, S', C, p, e => by
    cases p
    simp only [freezeAll, Option.some.injEq, Prod.mk.injEq] at e
    obtain ⟨rfl, rfl⟩ := e
    exact ⟨z, rfl, C, Sf.refl z H, .nil⟩
  | c :: cs, xs, z, rs, S', C, p, e => by
    cases p with
    | cons a b =>
      obtain ⟨ad, rfl, hm⟩ := a
      simp only [freezeAll] at e
      split at e
      · next d hd =>
        obtain ⟨⟨rs', S1⟩, e1, e2⟩ := omap e
        cases e2
        obtain ⟨c1, c2, c3⟩ := C.freeze hd
        obtain ⟨z', s', C', F', D'⟩ := freeze_all cs _ { z with S := z.S.set c (2, d) } rs' S1 c1 b e1
        exact ⟨z', s', C', c2.trans F', .cons ((c3 ad hm).mono F'.le) D'⟩
      · cases e
theorem retg_step {k : Nat} (h : tS K n (evS tb F W n (.retg k)) D σ H) : ∃ v, σ[k]? = some (some v) ∧ D.rt v H := by
  obtain ⟨z, env, o, C, E, e0, P⟩ := h
  simp only [evS] at e0
  split at e0
  · next d hd =>
    obtain ⟨js, e1, e0⟩ := obind e0
    obtain ⟨⟨rs, S1⟩, e2, e0⟩ := omap e0
    cases e0
    obtain rfl := of_grOf e1
    obtain ⟨v, hv, R⟩ := E.ev k _ hd
    obtain ⟨a, xs, rfl, h3, h4⟩ := Gr.of_name R
    obtain ⟨z', s', C', F', D'⟩ := freeze_all js xs z rs S1 C h4 e2
    exact ⟨_, hv, P z' _ H s' C' F' (.lst (F'.le _ _ h3) D') fun h => by cases h⟩
  · cases e0
theorem asgii_step {k : Nat} {i j e : T} (h : tS K n (evS tb F W n (.asgii k i j e)) D σ H) :
    tAsg (tE K (evE tb F e) (frE tb e)) (gSub (tOp (rIxL K) (tVar k) (tE K (evE tb F i) (frE tb i))) (tE K (evE tb F j) (frE tb j)) rSetL) D σ H := by
  obtain ⟨z, env, o, C, E, e0, P⟩ := h
  simp only [evS] at e0
  obtain ⟨r, e1, e0⟩ := obind e0
  obtain ⟨q, e2, e0⟩ := obind e0
  obtain ⟨⟨u1, S3⟩, e3, e0⟩ := obind e0
  obtain ⟨⟨w1, S4⟩, e4, e0⟩ := obind e0
  refine ⟨z, env, r.1, r.2, C, E, e1, fun z1 v1 H1 s1 C1 F1 R1 _ => ?_⟩
  obtain ⟨z2, s2, _, _, C2, F2, D2⟩ := settle_ok C1 R1 (show settle z1.S r.1 = some (q.1, q.2) by rw [s1]; exact e2)
  have E2 := (E.mono F1).mono F2
  simp only at e0
  split at e0
  · next d m p hd _ =>
    obtain ⟨js, g1, e0⟩ := obind e0
    obtain ⟨t, g2, e0⟩ := obind e0
    obtain ⟨c, g3, e0⟩ := obind e0
    split at e0
    · next xs hxs =>
      obtain ⟨b, g4, e0⟩ := omap e0
      cases e0
      obtain rfl := of_grOf g1
      obtain ⟨v, hv, R⟩ := E2.ev k _ hd
      obtain ⟨a, ys, rfl, h3, h4⟩ := Gr.of_name R
      refine ⟨_, hv, z2, env, _, S3, C2, E2, by rw [s2]; exact e3, fun z3 v3 H3 s3 C3 F3 R3 _ => ?_⟩
      have hv3 := R3.int
      subst hv3
      obtain ⟨x, k1, ad, rfl, k2⟩ := paired_get h4 g3
      have hl : ys.length = js.length := h4.length
      refine ⟨a, ys, m, .ref ad, rfl, rfl, SqL.of (z3.mask_le H3 _ _ (F3.le _ _ h3)), ?_, ?_⟩
      · unfold atI
        rw [hl]
        exact Option.bind_eq_some_iff.mpr ⟨t, g2, k1⟩
      · refine ⟨z3, env, _, S4, C3, E2.mono F3, by rw [s3]; exact e4, fun z4 v4 H4 s4 C4 F4 R4 _ => ?_⟩
        have hv4 := R4.int
        subst hv4
        have ha : z4.μ[c]? = some ad := F4.mu (F3.mu k2)
        have hx : z4.S[c]? = some (0, .list xs) := by rw [s4]; exact hxs
        obtain ⟨ys2, ds, q1, q2, q3⟩ := C4.cl c ad _ ha hx
        cases q1
        obtain ⟨c1, c2⟩ := C4.put (c' := (0, .list (xs.set b q.1))) hx rfl ha (by decide : (0 : Nat) ≠ 2) (by decide : (0 : Nat) = 1 → False) rfl (q3.set ((D2.mono F3.le).mono F4.le) b)
        refine ⟨ad, ys2, p, b, rfl, rfl, q2, by rw [q3.len]; exact g4, ?_⟩
        exact P _ σ _ (by show z4.S.set c _ = _; rw [s4]) c1 (F1.trans (F2.trans (F3.trans (F4.trans c2)))) (((E2.mono F3).mono F4).mono c2)
    · cases e0
  · cases e0
theorem rows_step {Q : VK} {own : List Nat} {tg : T} {gi : Evn → Sto → Option (List PyData × Sto × Option Nat)} {ge : Evf} {fe : Bool} (hown : ∀ k ∈ slotsT tg, k ∈ own) (hf : fe = true)
    {z : Zs} {env : Evn} (C : StC K z H) (E : EvOk K z H env σ) {items : List PyData} {S1 : Sto} {js : List Nat} {S2 : Sto} (e1 : gi env z.S = some (items, S1, none))
    (e2 : rowsLoop (fun x S1 => (bindT tg x (wipeE env own)).bind fun e1 => ge e1 S1) items [] S1 = some (js, S2))
    (q : ∀ z' v H', z'.S = S2 → StC K z' H' → Sf z H z' H' → Gr K z' H' v (grD js) → Q v H') :
    tLc (tI K gi) (tG K tg) (tTs K (evT tb F .nil)) (tE K ge fe) own σ H Q := by
  refine ⟨z, env, items, S1, none, C, E, e1, fun z1 J H1 s1 C1 F1 wk hlk D hD => ?_⟩
  obtain ⟨D0, xs0, ed, hD0, nG, nmu, CD, DD, LD⟩ := (C1.fresh hD (xs := []) (ds := []) .nil).2 [] rfl
  cases ed
  have E1 : EvOk K z1 H1 env σ := E.mono F1
  refine ⟨fun i m H' => m = items.length - i ∧ i ≤ items.length ∧ ∃ (μ2 : List Addr) (S3 : Sto) (acc : List V) (accJ : List Nat), StC K ⟨D :: z1.G, μ2, S3⟩ H' ∧ Sg z1 H1 ⟨D :: z1.G, μ2, S3⟩ H' ∧ (∀ g ∈ z1.G, H' g = H1 g) ∧
      H' D = some (.lst acc) ∧ Paired (fun (x : V) (j : Nat) => ∃ b, x = .ref b ∧ μ2[j]? = some b) acc accJ ∧
      rowsLoop (fun x S1 => (bindT tg x (wipeE env own)).bind fun e1 => ge e1 S1) (items.drop i) accJ S3 = some (js, S2),
    ⟨items.length, by simp, Nat.zero_le _, z1.μ, z1.S, [], [], CD, ⟨⟨[], by simp⟩, LD, fun _ _ h => h⟩, fun g hg => upd_ne (fun (w : g = D) => nG (w ▸ hg)), upd_same, .nil, by rw [s1]; exact e2⟩, ?_⟩
  rintro i m H' ⟨rfl, hi, μ2, S3, acc, accJ, C2, F2, G2, hacc, Dacc, el⟩
  obtain ⟨w1, w2, w3⟩ := wk i _ H' C2 F2
  by_cases hlt : i < items.length
  · refine .inr ⟨w1 hlt, fun H'' => ∃ (μ2 : List Addr) (S3 : Sto) (acc : List V) (accJ : List Nat), StC K ⟨D :: z1.G, μ2, S3⟩ H'' ∧ Sg z1 H1 ⟨D :: z1.G, μ2, S3⟩ H'' ∧ (∀ g ∈ z1.G, H'' g = H1 g) ∧
      H'' D = some (.lst acc) ∧ Paired (fun (x : V) (j : Nat) => ∃ b, x = .ref b ∧ μ2[j]? = some b) acc accJ ∧
      rowsLoop (fun x S1 => (bindT tg x (wipeE env own)).bind fun e1 => ge e1 S1) (items.drop (i + 1)) accJ S3 = some (js, S2),
      fun H'' hN => ⟨items.length - (i + 1), by omega, rfl, hlt, hN⟩, fun x H3 hy => ?_⟩
    obtain ⟨dx, hdx, C3, F3, D3⟩ := w3 x H3 hlt hy
    have ed : items.drop i = dx :: items.drop (i + 1) := by
      rw [List.drop_eq_getElem_cons hlt]
      congr 1
      rw [List.getElem?_eq_getElem hlt] at hdx
      exact Option.some.inj hdx
    rw [ed] at el
    simp only [rowsLoop] at el
    obtain ⟨⟨dy, S4⟩, e3, el⟩ := obind el
    obtain ⟨env1, e4, e3⟩ := obind e3
    have hG3 : ∀ g ∈ D :: z1.G, H3 g = H' g := F3.gh
    have F13 : Sg z1 H1 ⟨D :: z1.G, μ2, S3⟩ H3 := F2.trans F3.sg
    refine ⟨⟨D :: z1.G, μ2, S3⟩, wipeE env own, dx, env1, C3, (E1.monoG F13).wipe own, .inl D3, .inl D3.noCel, e4, fun σ2 E2 w => ⟨w own hown |>.trans ?_, ?_⟩⟩
    · have : ∀ ks : List Nat, (∀ k ∈ ks, k ∈ own) → wipe (wipe σ own) ks = wipe σ own := by
        intro ks
        induction ks with
        | nil => intro _; rfl
        | cons k ks ih =>
          intro hk
          show (wipe (wipe σ own) ks).set k none = wipe σ own
          rw [ih fun k' h' => hk k' (List.mem_cons_of_mem _ h')]
          have : ∀ (vs : List Nat), k ∈ vs → (wipe σ vs).set k none = wipe σ vs := by
            intro vs
            induction vs with
            | nil => intro h; cases h
            | cons v vs ih2 =>
              intro h
              show ((wipe σ vs).set v none).set k none = (wipe σ vs).set v none
              by_cases e : k = v
              · subst e; rw [List.set_set]
              · rcases List.mem_cons.mp h with h | h
                · exact (e h).elim
                · rw [List.set_comm _ _ (fun q => e q.symm), ih2 h]
          exact this own (hk k (List.mem_cons_self ..))
      exact this own fun _ h => h
    · refine ⟨⟨D :: z1.G, μ2, S3⟩, env1, true, S3, C3, E2, rfl, fun z4 H4 s4 C4 F4 => ?_⟩
      obtain ⟨G4, μ4, S4'⟩ := z4
      obtain rfl : G4 = D :: z1.G := F4.g
      have s4' : S4' = S3 := s4
      subst s4'
      have keep4 : H4 D = some (.lst acc) := ((F4.gh D (List.mem_cons_self ..)).trans (hG3 D (List.mem_cons_self ..))).trans hacc
      refine ⟨⟨D :: z1.G, μ4, S4'⟩, env1, dy, S4, C4, E2.mono F4, e3, fun z5 y H5 s5 C5 F5 R5 f5 => ?_⟩
      obtain ⟨ds, rfl⟩ : ∃ ds, dy = .list ds := by
        cases dy <;> first | exact ⟨_, rfl⟩ | cases el
      have hl : accJ.length < line := by
        by_cases hl : accJ.length < line
        · exact hl
        · simp only [if_neg hl] at el
          cases el
      simp only [if_pos hl] at el
      · · skip
          obtain ⟨ad, z6, rfl, s6, m6, C6, F6, R6⟩ := thaw_ok C5 F5 (f5 hf)
          have hz5 : z5.μ.length = z5.S.length := C5.len
          obtain ⟨G6, μ6, S6⟩ := z6
          obtain rfl : G6 = D :: z1.G := (F6.g : _)
          have s6 : S6 = z5.S ++ [(0, .list ds)] := s6
          have m6 : μ6 = z5.μ ++ [ad] := m6
          have keep5 : H5 D = some (.lst acc) := (F6.gh D (List.mem_cons_self ..)).trans keep4
          have hlen : acc.length = accJ.length := Dacc.length
          refine ⟨acc, keep5, by rw [hlen, ← line_eq]; exact hl, ?_⟩
          obtain ⟨C7, m7⟩ := C6.updG (List.mem_cons_self ..) (HO.lst (acc ++ [.ref ad]))
          have ex3 := F3.ex
          have ex4 := F4.ex
          refine ⟨μ6, S6, acc ++ [.ref ad], accJ ++ [S4.length], C7, ?_, fun g hg => ?_, upd_same, ?_, by rw [s6, s5]; exact el⟩
          · have t := (F13.trans F4.sg).trans F6.sg
            exact ⟨t.ex, by rw [m7]; exact t.le, t.lk⟩
          · rw [upd_ne (fun (w : g = D) => nG (w ▸ hg))]
            exact ((F6.gh g (List.mem_cons_of_mem _ hg)).trans ((F4.gh g (List.mem_cons_of_mem _ hg)))).trans ((hG3 g (List.mem_cons_of_mem _ hg)).trans (G2 g hg))
          · have up : ∀ {j : Nat} {b : Addr}, μ2[j]? = some b → μ6[j]? = some b := fun {j b} h => F6.mu (F4.mu h)
            refine Paired.snoc (paired_imp (fun x j ⟨b, q1, q2⟩ => ⟨b, q1, up q2⟩) Dacc) ⟨ad, rfl, ?_⟩
            rw [m6, ← s5, ← hz5, List.getElem?_concat_length]
  · have ei : i = items.length := by omega
    subst ei
    rw [List.drop_length] at el
    simp only [rowsLoop, Option.some.injEq, Prod.mk.injEq] at el
    obtain ⟨rfl, rfl⟩ := el
    refine .inl ⟨w2 rfl, ?_⟩
    have hDmu : D ∉ μ2 := (C2.gm D (List.mem_cons_self ..)).1
    obtain ⟨ν, eν⟩ := F2.ex
    have eν : μ2 = z1.μ ++ ν := eν
    refine q ⟨z1.G, μ2, S3⟩ (.ref D) H' rfl C2.unhide ⟨F1.g, ?_, F1.le.trans (F2.le.trans show_le), fun g hg => ?_, fun j c h => ?_⟩ ⟨D, accJ, acc, rfl, rfl, ?_, Dacc⟩
    · obtain ⟨ν1, e1'⟩ := F1.ex
      exact ⟨ν1 ++ ν, by show μ2 = _; rw [eν, e1', List.append_assoc]⟩
    · exact (G2 g (by rw [F1.g]; exact hg)).trans (F1.gh g hg)
    · exact F2.lk j c (F1.lk j c h)
    · refine Zs.mask_some.mpr ⟨fun w => ?_, hacc⟩
      rcases w with w | ⟨j, c, w1, _, _⟩
      · exact nG w
      · exact hDmu (List.mem_of_getElem? w1)
theorem parr_step {i j l : Nat} {a b : T} {own : List Nat} {tg it el : T} (hown : ∀ k ∈ slotsT tg, k ∈ own) (h : tS K n (evS tb F W n (.parr i j l a b own tg it el)) D σ H) :
    tPar3 i j l (tCons (tE K (evE tb F a) (frE tb a)) (tCons (tE K (evE tb F b) (frE tb b)) (tCons (tLc (tI K (evI tb F it)) (tG K tg) (tTs K (evT tb F .nil)) (tE K (evE tb F el) (frE tb el)) own) tNil))) D σ H := by
  obtain ⟨z, env, o, C, E, e0, P⟩ := h
  simp only [evS] at e0
  split at e0
  · next hc =>
    simp only [Bool.and_eq_true, decide_eq_true_eq] at hc
    obtain ⟨ra, e1, e0⟩ := obind e0
    obtain ⟨rb, e2, e0⟩ := obind e0
    obtain ⟨⟨items, S1, lk⟩, e3, e0⟩ := obind e0
    simp only at e0
    split at e0
    · next hlk =>
      subst hlk
      obtain ⟨u, e4, e0⟩ := obind e0
      obtain ⟨sa, e5, e0⟩ := obind e0
      obtain ⟨sb, e6, e0⟩ := omap e0
      cases e0
      refine ⟨z, env, ra.1, ra.2, C, E, e1, fun z1 v1 H1 s1 C1 F1 R1 _ => ⟨z1, env, rb.1, rb.2, C1, E.mono F1, by rw [s1]; exact e2, fun z2 v2 H2 s2 C2 F2 R2 _ => ?_⟩⟩
      refine rows_step hown hc.1 C2 ((E.mono F1).mono F2) (by rw [s2]; exact e3) e4 fun z3 v3 H3 s3 C3 F3 G3 => ?_
      obtain ⟨z4, s4, _, _, C4, F4, D4⟩ := settle_ok C3 ((R1.mono F2).mono F3) (show settle z3.S ra.1 = some (sa.1, sa.2) by rw [s3]; exact e5)
      obtain ⟨z5, s5, _, _, C5, F5, D5⟩ := settle_ok C4 ((R2.mono F3).mono F4) (show settle z4.S rb.1 = some (sb.1, sb.2) by rw [s4]; exact e6)
      refine ⟨v1, v2, v3, rfl, P z5 _ H3 s5 C5 (F1.trans (F2.trans (F3.trans (F4.trans F5)))) ?_⟩
      have E5 := ((((E.mono F1).mono F2).mono F3).mono F4).mono F5
      exact ((E5.set (.inl (D4.mono F5.le))).set (.inl D5)).setR (.inr ((G3.mono F4.le F4.ex).mono F5.le F5.ex))
    · cases e0
  · cases e0
end
end TW
end
section
set_option Elab.async false
set_option linter.all false
set_option maxRecDepth 100000
set_option maxHeartbeats 4000000
/-! TwBody: statements checked and read; a def's body. -/
namespace TW
open PySem PySem.Spec PyProof.Rows L2

def compB : Expr → Bool
  | .ListComp .. | .SetComp .. | .DictComp .. => true
  | _ => false
def tupB : Expr → Bool
  | .Tuple .. => true
  | _ => false
/-- the comprehension's own scope -/
def compSc : Expr → Option Scope
  | .ListComp _ _ s _ | .SetComp _ _ s _ | .DictComp _ _ _ s _ => some s
  | _ => none
/-- whether name = e stores ahead of the comprehension's end -/
def swB (sc : Scope) (e : Expr) (y : Str) (py : Pos) : Bool := match compSc e with
  | some s => decide (sc.names.lookup y = some .local) && py.line == e.pos.line && !(s.names.any fun (n, k) => n == y && (k == .local || k == .cell))
  | none => false
def lcB : T → Bool
  | .lc .. => true
  | _ => false
def isLocal (sc : Scope) (x : Str) : Bool := decide (sc.names.lookup x = some .local)
def allT : Str → Bool := fun _ => true
def isLocName (sc : Scope) : Expr → Bool
  | .Name id _ => isLocal sc id
  | _ => false
/-- a tuple assigned to a tuple in the plain way -/
def noSwap (sc : Scope) : Expr → Expr → Bool
  | .Tuple ts _ _, .Tuple vs _ _ => !(ts.length == 2 || ts.length == 3) || ts.any (fun t => !isLocName sc t) || vs.all (foldedForSure 8)
  | _, _ => true
mutual
def chkS (c : Ck) (sc : Scope) : T → Stmt → Bool
  | .asg (.var k) e, st => match st with
    | .Assign [.Name y py] v _ => decide (c.N[k]? = some y) && locB sc y && chkE c sc e v && (!swB sc v y py || lcB e)
    | _ => false
  | .asg tg e, st => match st with
    | .Assign [tge] v _ => tupB tge && noSwap sc tge v && chkG c sc allT none tg tge && chkE c sc e v
    | _ => false
  | .asgm k e, st => match st with
    | .Assign [.Name y py] v _ => decide (c.N[k]? = some y) && locB sc y && chkE c sc e v && (!swB sc v y py || lcB e)
    | _ => false
  | .asgi k i e, st => match st with
    | .Assign [.Subscript (.Name y _) ie _] v _ => decide (c.N[k]? = some y) && visB sc y && dbgB y && chkE c sc i ie && !sliceB ie && chkE c sc e v
    | _ => false
  | .par [(i, _), (j, _)] es, st => match st with
    | .Assign [.Tuple [.Name x px, .Name y py] _ _] (.Tuple [a, b] _ _) _ =>
      decide (c.N[i]? = some x) && decide (c.N[j]? = some y) && decide (i ≠ j) && isLocal sc x && isLocal sc y && px.line == py.line && decide (([x, y] : List Str).eraseDups.length = 2)
        && !([a, b].all (foldedForSure 8)) && !([a, b].all (constantsAlone 8)) && chkL c sc es [a, b]
    | _ => false
  | .par [(i, _), (j, _), (l, _)] es, st => match st with
    | .Assign [.Tuple [.Name x px, .Name y py, .Name z pz] _ _] (.Tuple [a, b, d] _ _) _ =>
      decide (c.N[i]? = some x) && decide (c.N[j]? = some y) && decide (c.N[l]? = some z) && decide (i ≠ j) && decide (i ≠ l) && decide (j ≠ l) && isLocal sc x && isLocal sc y && isLocal sc z && px.line == py.line && px.line == pz.line
        && decide (([x, y, z] : List Str).eraseDups.length = 3) && !([a, b, d].all (foldedForSure 8)) && !([a, b, d].all (constantsAlone 8)) && chkL c sc es [a, b, d]
    | _ => false
  | .parr i j l ta tb own tg it el, st => match st with
    | .Assign [.Tuple [.Name x px, .Name y py, .Name z pz] _ _] (.Tuple [a, b, .ListComp elt [⟨tge, ite, ifse, 0⟩] scope lpos] _ _) _ =>
      decide (c.N[i]? = some x) && decide (c.N[j]? = some y) && decide (c.N[l]? = some z) && decide (i ≠ j) && decide (i ≠ l) && decide (j ≠ l) && isLocal sc x && isLocal sc y && isLocal sc z && px.line == py.line && px.line == pz.line
        && decide (([x, y, z] : List Str).eraseDups.length = 3) && !([a, b, .ListComp elt [⟨tge, ite, ifse, 0⟩] scope lpos].all (foldedForSure 8)) && !([a, b, .ListComp elt [⟨tge, ite, ifse, 0⟩] scope lpos].all (constantsAlone 8))
        && (!starB a && chkE c sc ta a) && (!starB b && chkE c sc tb b) && chkE c sc (.lc own tg it .nil el) (.ListComp elt [⟨tge, ite, ifse, 0⟩] scope lpos)
    | _ => false
  | .asgii k i j e, st => match st with
    | .Assign [.Subscript (.Subscript (.Name y _) ie _) je _] v _ => decide (c.N[k]? = some y) && visB sc y && dbgB y && (chkE c sc i ie && !sliceB ie) && (chkE c sc j je && !sliceB je) && chkE c sc e v
    | _ => false
  | .retg k, st => match st with
    | .Return (some (.Name y _)) _ => decide (c.N[k]? = some y) && visB sc y && dbgB y
    | _ => false
  | .ex e, st => match st with
    | .Expr v _ => !compB v && chkE c sc e v
    | _ => false
  | .ret e, st => match st with
    | .Return (some v) _ => chkE c sc e v
    | _ => false
  | .retm k, st => match st with
    | .Return (some (.Name y _)) _ => decide (c.N[k]? = some y) && visB sc y && dbgB y
    | _ => false
  | .retn, st => match st with
    | .Return none _ => true
    | _ => false
  | .iff d a b, st => match st with
    | .If x p q _ => chkE c sc d x && chkB c sc a p && chkB c sc b q
    | _ => false
  | .forr tg it b, st => match st with
    | .For tge ite body [] _ => chkG c sc allT none tg tge && chkI c sc it tge ite && chkB c sc b body && !setB ite
    | _ => false
  | .whl d b, st => match st with
    | .While x body [] _ => chkE c sc d x && chkB c sc b body
    | _ => false
  | .pas, st => match st with
    | .Pass _ => true
    | .Expr (.Constant (.str _) _ _) _ => true
    | _ => false
  | .brk, st => match st with
    | .Break _ => true
    | _ => false
  | .cnt, st => match st with
    | .Continue _ => true
    | _ => false
  | .rais, _ => true
  | _, _ => false
def chkB (c : Ck) (sc : Scope) : T → List Stmt → Bool
  | .nil, sts => sts.isEmpty
  | .cons a b, sts => match sts with
    | x :: r => chkS c sc a x && chkB c sc b r
    | [] => false
  | _, _ => false
end

/-- a good context for statements -/
structure Gs (X : Cx) (c : Ck) (sc : Scope) (tb : Tb) (F : Clf) : Prop where
  gd : Gd X c sc tb F
  fn : ∀ x, X.fn x = true
  own : PassesOwn (model X.prog X.w) X.A X.env X.xe
variable {c : Ck} {tb : Tb} {F : Clf} {W n : Nat} {X : Cx} {sc : Scope}

theorem blockKind_of (h : X.env.scope.kind = .function) : X.env.blockKind = .function := by
  unfold Env.blockKind
  rw [h]; rfl
theorem swaps_eq {e : Expr} {y : Str} {py : Pos} {l : Nat} {env : Env} (h : env.blockKind = .function) : swapsWith e (some (.Name y py)) l env = pure (swB env.scope e y py) := by
  unfold swapsWith swB
  cases e <;> first
    | rfl
    | (show (pure (env.blockKind == .function && env.kindOf y == some .local && _ && _) : Sem Bool) = _
       rw [h]
       have e1 : (ScopeKind.function == ScopeKind.function) = true := by decide
       rw [e1, Bool.true_and]
       have e2 : (env.kindOf y == some NameKind.local) = decide (env.scope.names.lookup y = some NameKind.local) := by
         unfold Env.kindOf
         by_cases q : env.scope.names.lookup y = some .local
         · rw [q]; rfl
         · rw [decide_eq_false q]
           exact beq_eq_false_iff_ne.mpr q
       rw [e2]
       rfl)
/-- name = value -/
theorem name_ps {e : T} {v : Expr} {y : Str} {py pos : Pos} {k : Nat} (G : Gs X c sc tb F) (hN : c.N[k]? = some y) (hl : locB sc y = true) (he : chkE c sc e v = true) (hs : (!swB sc v y py || lcB e) = true) :
    PS X (.Assign [.Name y py] v pos) (tAsg (tE X.K (evE tb F e) (frE tb e)) (gName k)) := by
  have hl2 : L2.Loc X.env.scope y := by rw [G.gd.scp]; exact loc_of hl
  have hi : X.N[k]? = some y := by rw [G.gd.n]; exact hN
  have nd : X.N.Nodup := by rw [G.gd.n]; exact G.gd.nd
  refine ⟨fun pins s σ H D I hq => ?_⟩
  have bk := blockKind_of I.ok.kind
  by_cases sw : swB sc v y py = true
  · have hlc : lcB e = true := by rw [sw] at hs; simpa using hs
    have hsw := swaps_eq (e := v) (y := y) (py := py) (l := pos.line) bk
    rw [G.gd.scp, sw] at hsw
    cases e <;> first | (cases hlc; done) | skip
    next own tg it ifs el =>
      have h0 := he
      cases v <;> simp only [chkE, Bool.false_eq_true] at he
      split at he <;> first | (cases he; done) | skip
      next hx =>
        cases hx
        obtain ⟨h1, h2, h3, h4, h5, h6, h7, h8⟩ := lc_parts G.gd h0 (all_ok it) (all_ok ifs) (all_ok el)
        have hloc : X.env.scope.names.lookup y = some .local := by
          rw [G.gd.scp]
          unfold swB at sw
          simp only [compSc, Bool.and_eq_true, decide_eq_true_eq] at sw
          exact sw.1.1
        refine (ps_setLc G.gd.calm nd hi hloc hsw h3 h2 h4 h5 h6 h7).run pins s σ H D I ?_
        rw [h1]
        exact lc_step h8 hq
  · have hsw := swaps_eq (e := v) (y := y) (py := py) (l := pos.line) bk
    rw [G.gd.scp, Bool.eq_false_iff.mpr sw] at hsw
    exact (ps_set nd hi hl2 ((all_ok e).fe X sc v G.gd he) hsw (.inl (G.fn y))).run pins s σ H D I hq
theorem fm_short {env : Env} {l : Nat} : ∀ {ts : List Expr}, (ts.any fun t => !isLocName env.scope t) = true → (ts.filterMap fun
    | .Name id pos => if env.kindOf id == some .local && pos.line == l then some id else none
    | _ => none).length < ts.length
  | [], h => by cases h
  | t :: ts, h => by
    rw [List.any_cons, Bool.or_eq_true] at h
    have le : ∀ ts : List Expr, (ts.filterMap fun
        | .Name id pos => if env.kindOf id == some .local && pos.line == l then some id else none
        | _ => none).length ≤ ts.length := fun ts => List.length_filterMap_le _ _
    rw [List.filterMap_cons]
    by_cases ht : isLocName env.scope t = true
    · rw [ht] at h
      have := fm_short (l := l) (h.resolve_left (by decide))
      split <;> simp only [List.length_cons] <;> omega
    · have e : (match t with
        | .Name id pos => if env.kindOf id == some .local && pos.line == l then some id else none
        | _ => none) = none := by
        cases t <;> try rfl
        next id pos =>
          have : (env.kindOf id == some NameKind.local) = false := by
            unfold Env.kindOf
            unfold isLocName isLocal at ht
            exact beq_eq_false_iff_ne.mpr (fun q => ht (decide_eq_true q))
          simp [this]
      have := le ts
      simp only [List.length_cons]
      split
      · omega
      · next x hx =>
        have hx2 : _ = some x := hx
        rw [e] at hx2
        cases hx2
theorem swap_none {env : Env} {ts vs : List Expr} {k k2 : Nat} {p p2 : Pos} (h : noSwap env.scope (.Tuple ts k p) (.Tuple vs k2 p2) = true) : swappedStores [.Tuple ts k p] (.Tuple vs k2 p2) env = pure none := by
  unfold noSwap at h
  simp only [Bool.or_eq_true] at h
  unfold swappedStores
  simp only [pure_bind]
  split
  · rfl
  · next h1 =>
    split
    · rfl
    · split
      · rfl
      · next h3 =>
        split
        · rfl
        · next h4 =>
          exfalso
          rcases h with (h | h) | h
          · simp only [Bool.or_eq_true, not_or] at h1
            exact h1.1.1 h
          · have := fm_short (l := (Option.map (fun x => x.pos.line) ts.head?).getD 0) h
            exact h3 (by rw [Bool.or_eq_true]; exact .inl (bne_iff_ne.mpr (by intro q; exact absurd (q ▸ this) (by omega))))
          · exact h4 h
theorem tgt_ps {tg e : T} {tge v : Expr} {pos : Pos} (G : Gs X c sc tb F) (ht : tupB tge = true) (hv : noSwap sc tge v = true) (hg : chkG c sc allT none tg tge = true) (he : chkE c sc e v = true) :
    PS X (.Assign [tge] v pos) (tAsg (tE X.K (evE tb F e) (frE tb e)) (tG X.K tg)) := by
  have pg := (pg_all G.gd (st := allT) (fun x _ _ => .inl (G.fn x)) tg).1 none tge hg
  refine ps_asg ((all_ok e).fe X sc v G.gd he) pg ?_ ?_ ?_
  · show swapsWith v (some tge) pos.line X.env = pure false
    cases tge <;> first | (cases ht; done) | skip
    unfold swapsWith
    cases v <;> rfl
  · cases tge <;> first | (cases ht; done) | skip
    cases v <;> first | rfl | exact swap_none (by rw [G.gd.scp]; exact hv)
  · cases tge <;> first | (cases ht; done) | rfl
theorem sub_ps {k : Nat} {i e : T} {y : Str} {py p2 pos : Pos} {ie v : Expr} (G : Gs X c sc tb F) (hN : c.N[k]? = some y) (hv : visB sc y = true) (hd : dbgB y = true) (hi : chkE c sc i ie = true) (hs : sliceB ie = false) (he : chkE c sc e v = true) :
    PS X (.Assign [.Subscript (.Name y py) ie p2] v pos) (tAsg (tE X.K (evE tb F e) (frE tb e)) (gSub (tVar k) (tE X.K (evE tb F i) (frE tb i)) rSetL)) := by
  obtain ⟨d1, d2⟩ := dbg_of hd
  have pv := pe_var (X := X) (pos := py) (by rw [G.gd.n]; exact hN) (by rw [G.gd.scp]; exact vis_of hv) d1 d2
  refine ps_asg ((all_ok e).fe X sc v G.gd he) (pg_sub pv ((all_ok i).fe X sc ie G.gd hi) set_list ?_) ?_ ?_ ?_
  · intro w
    cases ie <;> first | (cases hs; done) | rfl
  · show swapsWith v (some (.Subscript (.Name y py) ie p2)) pos.line X.env = pure false
    unfold swapsWith
    cases v <;> rfl
  · cases v <;> rfl
  · rfl
theorem kind_loc {env : Env} {x : Str} (h : env.scope.names.lookup x = some .local) : (env.kindOf x == some NameKind.local) = true := by
  unfold Env.kindOf
  rw [h]; rfl
theorem sw_two {env : Env} {x y : Str} {px py pt pt2 : Pos} {a b : Expr} {kt k2} (hk : env.blockKind = .function) (hx : env.scope.names.lookup x = some .local) (hy : env.scope.names.lookup y = some .local) (hl : (px.line == py.line) = true)
    (hd : ([x, y] : List Str).eraseDups.length = 2) (h1 : ([a, b].all (foldedForSure 8)) = false) (h2 : ([a, b].all (constantsAlone 8)) = false) (sa : starB a = false) (sb : starB b = false) :
    swappedStores [.Tuple [.Name x px, .Name y py] kt pt] (.Tuple [a, b] k2 pt2) env = pure (some [x, y]) := by
  have hl' : py.line = px.line := (eq_of_beq hl).symm
  have kx := kind_loc hx
  have ky := kind_loc hy
  have hd' : (([x, y] : List Str).eraseDups.length != 2) = false := by rw [hd]; rfl
  unfold swappedStores
  simp only [pure_bind, List.length_cons, List.length_nil, hk, List.filterMap_cons, List.filterMap_nil, kx, ky, hl', beq_self_eq_true, Bool.and_self, if_true, List.head?_cons, Option.map_some, Option.getD_some, h1, h2, Expr.pos]
  simp [hd']
  intro h
  rcases h with h | h
  · cases a <;> first | (cases sa; done) | (cases h; done)
  · cases b <;> first | (cases sb; done) | (cases h; done)
theorem sw_three {env : Env} {x y z : Str} {px py pz pt pt2 : Pos} {a b d : Expr} {kt k2} (hk : env.blockKind = .function) (hx : env.scope.names.lookup x = some .local) (hy : env.scope.names.lookup y = some .local) (hz : env.scope.names.lookup z = some .local) (hl : (px.line == py.line) = true) (hm : (px.line == pz.line) = true)
    (hd : ([x, y, z] : List Str).eraseDups.length = 3) (h1 : ([a, b, d].all (foldedForSure 8)) = false) (h2 : ([a, b, d].all (constantsAlone 8)) = false) (sa : starB a = false) (sb : starB b = false) (sd : starB d = false) :
    swappedStores [.Tuple [.Name x px, .Name y py, .Name z pz] kt pt] (.Tuple [a, b, d] k2 pt2) env = pure (some [x, y, z]) := by
  have hl' : py.line = px.line := (eq_of_beq hl).symm
  have hm' : pz.line = px.line := (eq_of_beq hm).symm
  have kx := kind_loc hx
  have ky := kind_loc hy
  have kz := kind_loc hz
  have hd' : (([x, y, z] : List Str).eraseDups.length != 3) = false := by rw [hd]; rfl
  unfold swappedStores
  simp only [pure_bind, List.length_cons, List.length_nil, hk, List.filterMap_cons, List.filterMap_nil, kx, ky, kz, hl', hm', beq_self_eq_true, Bool.and_self, if_true, List.head?_cons, Option.map_some, Option.getD_some, h1, h2, Expr.pos]
  simp [hd']
  intro h
  rcases h with h | h | h
  · cases a <;> first | (cases sa; done) | (cases h; done)
  · cases b <;> first | (cases sb; done) | (cases h; done)
  · cases d <;> first | (cases sd; done) | (cases h; done)
theorem chkL_stars {es : T} : ∀ {xs : List Expr}, chkL c sc es xs = true → ∀ x ∈ xs, starB x = false := fun {xs} h => by
  revert xs
  induction es with
  | nil => intro xs h; have : xs = [] := by simpa [chkL] using h
           subst this; simp
  | cons a b iha ihb =>
    intro xs h
    cases xs with
    | nil => simp
    | cons x r =>
      simp only [chkL, Bool.and_eq_true, Bool.not_eq_true'] at h
      intro y hy
      rcases List.mem_cons.mp hy with rfl | hy
      · exact h.1.1
      · exact ihb h.2 y hy
  | _ => intro xs h; simp [chkL] at h
theorem swapT {t : Expr} {v : Expr} {l : Nat} {env : Env} (ht : tupB t = true) (hv : tupB v = true) : swapsWithSole [t] v l env = pure false := by
  show swapsWith v (some t) l env = pure false
  cases v <;> first | (cases hv; done) | rfl
theorem par2_ps {i j : Nat} {f g : Bool} {es : T} {x y : Str} {px py pt pt2 pos : Pos} {a b : Expr} {kt k2} (G : Gs X c sc tb F)
    (h : (decide (c.N[i]? = some x) && decide (c.N[j]? = some y) && decide (i ≠ j) && isLocal sc x && isLocal sc y && px.line == py.line && decide (([x, y] : List Str).eraseDups.length = 2)
        && !([a, b].all (foldedForSure 8)) && !([a, b].all (constantsAlone 8)) && chkL c sc es [a, b]) = true) :
    PS X (.Assign [.Tuple [.Name x px, .Name y py] kt pt] (.Tuple [a, b] k2 pt2) pos) (tPar i j (tA X.K (evL tb F es))) := by
  simp only [Bool.and_eq_true, decide_eq_true_eq, isLocal, Bool.not_eq_true'] at h
  obtain ⟨⟨⟨⟨⟨⟨⟨⟨⟨h1, h2⟩, h3⟩, h4⟩, h5⟩, h6⟩, h7⟩, h8⟩, h9⟩, h10⟩ := h
  have st := chkL_stars h10
  refine ⟨fun pins s σ H D I hq => ?_⟩
  have bk := blockKind_of I.ok.kind
  exact (ps_par G.gd.calm (by rw [G.gd.n]; exact G.gd.nd) (by rw [G.gd.n]; exact h1) (by rw [G.gd.n]; exact h2) h3 (by rw [G.gd.scp]; exact h4) (by rw [G.gd.scp]; exact h5) ((all_ok es).fl X sc _ G.gd h10)
    (sw_two (pt2 := pt2) bk (by rw [G.gd.scp]; exact h4) (by rw [G.gd.scp]; exact h5) h6 h7 h8 h9 (st a (by simp)) (st b (by simp))) (swapT rfl rfl)).run pins s σ H D I hq
theorem par3_ps {i j l : Nat} {es : T} {x y z : Str} {px py pz pt pt2 pos : Pos} {a b d : Expr} {kt k2} (G : Gs X c sc tb F)
    (h : (decide (c.N[i]? = some x) && decide (c.N[j]? = some y) && decide (c.N[l]? = some z) && decide (i ≠ j) && decide (i ≠ l) && decide (j ≠ l) && isLocal sc x && isLocal sc y && isLocal sc z && px.line == py.line && px.line == pz.line
        && decide (([x, y, z] : List Str).eraseDups.length = 3) && !([a, b, d].all (foldedForSure 8)) && !([a, b, d].all (constantsAlone 8)) && chkL c sc es [a, b, d]) = true) :
    PS X (.Assign [.Tuple [.Name x px, .Name y py, .Name z pz] kt pt] (.Tuple [a, b, d] k2 pt2) pos) (tPar3 i j l (tA X.K (evL tb F es))) := by
  simp only [Bool.and_eq_true, decide_eq_true_eq, isLocal, Bool.not_eq_true'] at h
  obtain ⟨⟨⟨⟨⟨⟨⟨⟨⟨⟨⟨⟨⟨⟨h1, h2⟩, h2b⟩, h3⟩, h3b⟩, h3c⟩, h4⟩, h5⟩, h5b⟩, h6⟩, h6b⟩, h7⟩, h8⟩, h9⟩, h10⟩ := h
  have st := chkL_stars h10
  refine ⟨fun pins s σ H D I hq => ?_⟩
  have bk := blockKind_of I.ok.kind
  exact (ps_par3 G.gd.calm (by rw [G.gd.n]; exact G.gd.nd) (by rw [G.gd.n]; exact h1) (by rw [G.gd.n]; exact h2) (by rw [G.gd.n]; exact h2b) h3 h3b h3c (by rw [G.gd.scp]; exact h4) (by rw [G.gd.scp]; exact h5) (by rw [G.gd.scp]; exact h5b) ((all_ok es).fl X sc _ G.gd h10)
    (sw_three (pt2 := pt2) bk (by rw [G.gd.scp]; exact h4) (by rw [G.gd.scp]; exact h5) (by rw [G.gd.scp]; exact h5b) h6 h6b h7 h8 h9 (st a (by simp)) (st b (by simp)) (st d (by simp))) (swapT rfl rfl)).run pins s σ H D I hq
theorem parr_ps {i j l : Nat} {ta tb' : T} {own : List Nat} {tg it el : T} {x y z : Str} {px py pz pt pt2 pos lpos : Pos} {a b elt tge ite : Expr} {ifse : List Expr} {scope : Scope} {kt k2} (G : Gs X c sc tb F)
    (h : (decide (c.N[i]? = some x) && decide (c.N[j]? = some y) && decide (c.N[l]? = some z) && decide (i ≠ j) && decide (i ≠ l) && decide (j ≠ l) && isLocal sc x && isLocal sc y && isLocal sc z && px.line == py.line && px.line == pz.line
        && decide (([x, y, z] : List Str).eraseDups.length = 3) && !([a, b, .ListComp elt [⟨tge, ite, ifse, 0⟩] scope lpos].all (foldedForSure 8)) && !([a, b, .ListComp elt [⟨tge, ite, ifse, 0⟩] scope lpos].all (constantsAlone 8))
        && (!starB a && chkE c sc ta a) && (!starB b && chkE c sc tb' b) && chkE c sc (.lc own tg it .nil el) (.ListComp elt [⟨tge, ite, ifse, 0⟩] scope lpos)) = true) :
    PS X (.Assign [.Tuple [.Name x px, .Name y py, .Name z pz] kt pt] (.Tuple [a, b, .ListComp elt [⟨tge, ite, ifse, 0⟩] scope lpos] k2 pt2) pos) (tS X.K n (evS tb F W n (.parr i j l ta tb' own tg it el))) := by
  simp only [Bool.and_eq_true, decide_eq_true_eq, isLocal, Bool.not_eq_true'] at h
  obtain ⟨⟨⟨⟨⟨⟨⟨⟨⟨⟨⟨⟨⟨⟨⟨⟨h1, h2⟩, h2b⟩, h3⟩, h3b⟩, h3c⟩, h4⟩, h5⟩, h5b⟩, h6⟩, h6b⟩, h7⟩, h8⟩, h9⟩, sa, ha⟩, sb, hb⟩, hl⟩ := h
  obtain ⟨p1, p2, p3, p4, p5, p6, p7, p8⟩ := lc_parts G.gd hl (all_ok it) (all_ok .nil) (all_ok el)
  refine ⟨fun pins s σ H D I hq => ?_⟩
  have bk := blockKind_of I.ok.kind
  have hlc := pe_lc (pos := lpos) G.gd.calm (by rw [G.gd.n]; exact G.gd.nd) p3 p2 p4 p5 p6 p7
  rw [p1] at hlc
  have pa := pa_cons ((all_ok ta).fe X sc a G.gd ha) (pa_cons ((all_ok tb').fe X sc b G.gd hb) (pa_cons hlc pa_nil (sEach rfl)) (sEach sb)) (sEach sa)
  exact (ps_par3 G.gd.calm (by rw [G.gd.n]; exact G.gd.nd) (by rw [G.gd.n]; exact h1) (by rw [G.gd.n]; exact h2) (by rw [G.gd.n]; exact h2b) h3 h3b h3c (by rw [G.gd.scp]; exact h4) (by rw [G.gd.scp]; exact h5) (by rw [G.gd.scp]; exact h5b) pa
    (sw_three (pt2 := pt2) bk (by rw [G.gd.scp]; exact h4) (by rw [G.gd.scp]; exact h5) (by rw [G.gd.scp]; exact h5b) h6 h6b h7 h8 h9 sa sb rfl) (swapT rfl rfl)).run pins s σ H D I (parr_step p8 hq)
theorem sub2_ps {k : Nat} {i j e : T} {y : Str} {py p1 p2 pos : Pos} {ie je v : Expr} (G : Gs X c sc tb F) (hN : c.N[k]? = some y) (hv : visB sc y = true) (hd : dbgB y = true) (hi : chkE c sc i ie = true) (hs : sliceB ie = false) (hj : chkE c sc j je = true) (hs2 : sliceB je = false) (he : chkE c sc e v = true) :
    PS X (.Assign [.Subscript (.Subscript (.Name y py) ie p1) je p2] v pos) (tAsg (tE X.K (evE tb F e) (frE tb e)) (gSub (tOp (rIxL X.K) (tVar k) (tE X.K (evE tb F i) (frE tb i))) (tE X.K (evE tb F j) (frE tb j)) rSetL)) := by
  obtain ⟨d1, d2⟩ := dbg_of hd
  have pv := pe_var (X := X) (pos := py) (by rw [G.gd.n]; exact hN) (by rw [G.gd.scp]; exact vis_of hv) d1 d2
  have pb := pe_ix (pos := p1) ix_list pv ((all_ok i).fe X sc ie G.gd hi) (plain_ix hs)
  refine ps_asg ((all_ok e).fe X sc v G.gd he) (pg_sub pb ((all_ok j).fe X sc je G.gd hj) set_list ?_) ?_ ?_ ?_
  · intro w
    cases je <;> first | (cases hs2; done) | rfl
  · show swapsWith v (some (.Subscript (.Subscript (.Name y py) ie p1) je p2)) pos.line X.env = pure false
    unfold swapsWith
    cases v <;> rfl
  · cases v <;> rfl
  · rfl
/-! ### the induction -/
def BB (c : Ck) (tb : Tb) (F : Clf) (W n : Nat) (t : T) : Prop :=
  (∀ X sc st, Gs X c sc tb F → chkS c sc t st = true → PS X st (tS X.K n (evS tb F W n t))) ∧ ∀ X sc sts, Gs X c sc tb F → chkB c sc t sts = true → PSs X sts (tS X.K n (evB tb F W n t))
theorem BB.stmt {t : T} (hb : ∀ c sc sts, chkB c sc t sts = false) (h : ∀ X sc st, Gs X c sc tb F → chkS c sc t st = true → PS X st (tS X.K n (evS tb F W n t))) : BB c tb F W n t :=
  ⟨h, fun X sc sts G hc => by rw [hb] at hc; cases hc⟩
theorem asg_ne {tg e : T} {st : Stmt} (h : ¬ ∃ k, tg = .var k) : chkS c sc (.asg tg e) st = match st with
    | .Assign [tge] v _ => tupB tge && noSwap sc tge v && chkG c sc allT none tg tge && chkE c sc e v
    | _ => false := by
  cases tg <;> first | (exact absurd ⟨_, rfl⟩ h) | rfl
theorem body_ok : ∀ t : T, BB c tb F W n t := by
  intro t
  induction t with
  | nil =>
    refine ⟨fun X sc st G h => by simp [chkS] at h, fun X sc sts G h => ?_⟩
    have : sts = [] := by simpa [chkB] using h
    subst this
    exact ⟨fun pins s σ H D I hq => pss_nil.run pins s σ H D I (nil_step hq)⟩
  | cons a b ia ib =>
    refine ⟨fun X sc st G h => by simp [chkS] at h, fun X sc sts G h => ?_⟩
    cases sts with
    | nil => simp [chkB] at h
    | cons x r =>
      simp only [chkB, Bool.and_eq_true] at h
      exact ⟨fun pins s σ H D I hq => (pss_cons (ia.1 X sc x G h.1) (ib.2 X sc r G h.2)).run pins s σ H D I (seq_step hq)⟩
  | asg tg e =>
    refine BB.stmt (fun c sc sts => rfl) fun X sc st G h => ?_
    by_cases hv : ∃ k, tg = .var k
    · obtain ⟨k, rfl⟩ := hv
      simp only [chkS] at h
      split at h
      · simp only [Bool.and_eq_true, decide_eq_true_eq] at h
        exact ⟨fun pins s σ H D I hq => (name_ps G h.1.1.1 h.1.1.2 h.1.2 h.2).run pins s σ H D I (asgN_step hq)⟩
      · cases h
    · rw [asg_ne hv] at h
      split at h
      · simp only [Bool.and_eq_true] at h
        exact ⟨fun pins s σ H D I hq => (tgt_ps G h.1.1.1 h.1.1.2 h.1.2 h.2).run pins s σ H D I (asg_step hq)⟩
      · cases h
  | asgm k e =>
    refine BB.stmt (fun c sc sts => rfl) fun X sc st G h => ?_
    simp only [chkS] at h
    split at h
    · simp only [Bool.and_eq_true, decide_eq_true_eq] at h
      exact ⟨fun pins s σ H D I hq => (name_ps G h.1.1.1 h.1.1.2 h.1.2 h.2).run pins s σ H D I (asgm_step hq)⟩
    · cases h
  | asgi k i e =>
    refine BB.stmt (fun c sc sts => rfl) fun X sc st G h => ?_
    simp only [chkS] at h
    split at h
    · simp only [Bool.and_eq_true, decide_eq_true_eq, Bool.not_eq_true'] at h
      exact ⟨fun pins s σ H D I hq => (sub_ps G h.1.1.1.1.1 h.1.1.1.1.2 h.1.1.1.2 h.1.1.2 h.1.2 h.2).run pins s σ H D I (asgi_step hq)⟩
    · cases h
  | par ks es =>
    refine BB.stmt (fun c sc sts => by cases sts <;> rfl) fun X sc st G h => ?_
    match ks, h with
    | [(i, f), (j, g)], h =>
      simp only [chkS] at h
      split at h
      · exact ⟨fun pins s σ H D I hq => (par2_ps (f := f) (g := g) G h).run pins s σ H D I (par2_step hq)⟩
      · cases h
    | [(i, f), (j, g), (l, u)], h =>
      simp only [chkS] at h
      split at h
      · exact ⟨fun pins s σ H D I hq => (par3_ps G h).run pins s σ H D I (par3_step hq)⟩
      · cases h
    | [], h => simp [chkS] at h
    | [_], h => simp [chkS] at h
    | _ :: _ :: _ :: _ :: _, h => simp [chkS] at h
  | parr i j l a b own tg it el =>
    refine BB.stmt (fun c sc sts => rfl) fun X sc st G h => ?_
    simp only [chkS] at h
    split at h
    · exact parr_ps G h
    · cases h
  | asgii k i j e =>
    refine BB.stmt (fun c sc sts => rfl) fun X sc st G h => ?_
    simp only [chkS] at h
    split at h
    · simp only [Bool.and_eq_true, decide_eq_true_eq, Bool.not_eq_true'] at h
      obtain ⟨⟨⟨⟨⟨a1, a2⟩, a3⟩, a4, a5⟩, a6, a7⟩, a8⟩ := h
      exact ⟨fun pins s σ H D I hq => (sub2_ps G a1 a2 a3 a4 a5 a6 a7 a8).run pins s σ H D I (asgii_step hq)⟩
    · cases h
  | retg k =>
    refine BB.stmt (fun c sc sts => rfl) fun X sc st G h => ?_
    simp only [chkS] at h
    split at h
    · simp only [Bool.and_eq_true, decide_eq_true_eq] at h
      obtain ⟨d1, d2⟩ := dbg_of h.2
      have pv : ∀ p, PE X (.Name _ p) (tVar k) := fun p => pe_var (X := X) (pos := p) (by rw [G.gd.n]; exact h.1.1) (by rw [G.gd.scp]; exact vis_of h.1.2) d1 d2
      exact ⟨fun pins s σ H D I hq => (ps_ret (pv _)).run pins s σ H D I (retg_step hq)⟩
    · cases h
  | ex e =>
    refine BB.stmt (fun c sc sts => rfl) fun X sc st G h => ?_
    simp only [chkS] at h
    split at h
    · simp only [Bool.and_eq_true, Bool.not_eq_true'] at h
      next v pos =>
        refine ⟨fun pins s σ H D I hq => (ps_expr ((all_ok e).fe X sc _ G.gd h.2) ?_).run pins s σ H D I (ex_step hq)⟩
        have h1 := h.1
        cases v <;> first | (cases h1; done) | rfl
    · cases h
  | ret e =>
    refine BB.stmt (fun c sc sts => rfl) fun X sc st G h => ?_
    simp only [chkS] at h
    split at h
    · exact ⟨fun pins s σ H D I hq => (ps_ret ((all_ok e).fe X sc _ G.gd h)).run pins s σ H D I (ret_step hq)⟩
    · cases h
  | retm k =>
    refine BB.stmt (fun c sc sts => rfl) fun X sc st G h => ?_
    simp only [chkS] at h
    split at h
    · simp only [Bool.and_eq_true, decide_eq_true_eq] at h
      obtain ⟨d1, d2⟩ := dbg_of h.2
      have pv : ∀ p, PE X (.Name _ p) (tVar k) := fun p => pe_var (X := X) (pos := p) (by rw [G.gd.n]; exact h.1.1) (by rw [G.gd.scp]; exact vis_of h.1.2) d1 d2
      exact ⟨fun pins s σ H D I hq => (ps_ret (pv _)).run pins s σ H D I (retm_step hq)⟩
    · cases h
  | retn =>
    refine BB.stmt (fun c sc sts => rfl) fun X sc st G h => ?_
    simp only [chkS] at h
    split at h
    · exact ⟨fun pins s σ H D I hq => ps_retN.run pins s σ H D I (retn_step hq)⟩
    · cases h
  | iff d a b id ia ib =>
    refine BB.stmt (fun c sc sts => rfl) fun X sc st G h => ?_
    simp only [chkS] at h
    split at h
    · simp only [Bool.and_eq_true] at h
      exact ⟨fun pins s σ H D I hq => (ps_if ((all_ok d).ft X sc _ G.gd h.1.1) (ia.2 X sc _ G h.1.2) (ib.2 X sc _ G h.2)).run pins s σ H D I (iff_step hq)⟩
    · cases h
  | forr tg it b itg iit ib =>
    refine BB.stmt (fun c sc sts => rfl) fun X sc st G h => ?_
    simp only [chkS] at h
    split at h
    · simp only [Bool.and_eq_true, Bool.not_eq_true'] at h
      exact ⟨fun pins s σ H D I hq => (ps_for G.own G.gd.calm ((all_ok it).fi X sc _ _ G.gd h.1.1.2) ((pg_all G.gd (st := allT) (fun x _ _ => .inl (G.fn x)) tg).1 none _ h.1.1.1) (ib.2 X sc _ G h.1.2) (folded_plain h.2 X.env)).run pins s σ H D I (for_step hq)⟩
    · cases h
  | whl d b id ib =>
    refine BB.stmt (fun c sc sts => rfl) fun X sc st G h => ?_
    simp only [chkS] at h
    split at h
    · simp only [Bool.and_eq_true] at h
      exact ⟨fun pins s σ H D I hq => (ps_while G.own ((all_ok d).ft X sc _ G.gd h.1) (ib.2 X sc _ G h.2)).run pins s σ H D I (whl_step hq)⟩
    · cases h
  | pas =>
    refine BB.stmt (fun c sc sts => rfl) fun X sc st G h => ?_
    simp only [chkS] at h
    split at h
    · exact ⟨fun pins s σ H D I hq => ps_pass.run pins s σ H D I (pas_step hq)⟩
    · exact ⟨fun pins s σ H D I hq => ps_doc.run pins s σ H D I (pas_step hq)⟩
    · cases h
  | brk =>
    refine BB.stmt (fun c sc sts => rfl) fun X sc st G h => ?_
    simp only [chkS] at h
    split at h
    · exact ⟨fun pins s σ H D I hq => ps_break.run pins s σ H D I (brk_step hq)⟩
    · cases h
  | cnt =>
    refine BB.stmt (fun c sc sts => rfl) fun X sc st G h => ?_
    simp only [chkS] at h
    split at h
    · exact ⟨fun pins s σ H D I hq => ps_continue.run pins s σ H D I (cnt_step hq)⟩
    · cases h
  | rais =>
    refine BB.stmt (fun c sc sts => rfl) fun X sc st G h => ⟨fun pins s σ H D I hq => ?_⟩
    obtain ⟨z, env, o, C, E, e, P⟩ := hq
    simp only [evS] at e
    cases e
  | _ => exact ⟨fun X sc st G h => by simp [chkS] at h, fun X sc sts G h => by simp [chkB] at h⟩
end TW
end
section
set_option Elab.async false
set_option linter.all false
set_option maxRecDepth 100000
/-! TwLaw: the defs of a law keep the promises that the evaluator gives; the law's own call. -/
namespace TW
open PySem PySem.Spec PyProof.Rows L2

/-- a def as the law's table holds it -/
structure Df where
  nm : Str
  st : Stmt
  N : List Str
  ps : List Str
  fr : Bool
  body : T
abbrev Kw := List (Nat × List Str × List Nat)
def tbOf (D : List Df) : Tb := fun f => (D[f]?).map fun d => ⟨d.ps.length, d.N.length, d.fr, d.body⟩
def nmOf (D : List Df) : Nat → Option Str := fun f => (D[f]?).map (·.nm)
def okDf (nm : Nat → Option Str) (kw : Kw) (d : Df) : Bool := C8.scC d.N d.ps (defScope d.st) && chkB ⟨d.N, nm, kw⟩ (defScope d.st) d.body (defBody d.st)

/-- what the module's written part says of a def -/
def Lk (K : PySem.W.Frag) (mg : Str → Option Value) (kw : Kw) (i : Nat) (d : Df) (fa : Addr) (fd : FuncData) : Prop :=
  mg d.nm = some (.ref fa) ∧ Fun K d.nm d.nm d.st fa fd ∧ Binds K fd d.ps [] ∧ ∀ ks perm, (i, ks, perm) ∈ kw → KBinds K fd d.ps ks (gK Value.none ks perm) (gK V.non ks perm)

theorem evC_none {tb : Tb} {W : Nat} : ∀ {k f : Nat} {ds : List PyData} {S : Sto}, tb f = none → evC tb W k f ds S = none
  | 0, _, _, _, _ => rfl
  | k + 1, f, ds, S, h => by unfold evC; rw [h]
theorem evC_fit {tb : Tb} {W : Nat} : ∀ {k f : Nat} {fn : Fn} {ds : List PyData} {S : Sto} {r : PyData × Sto}, tb f = some fn → evC tb W k f ds S = some r → ds.length = fn.np
  | 0, _, _, _, _, _, _, h => by cases h
  | k + 1, f, fn, ds, S, r, hf, h => by
    unfold evC at h
    rw [hf] at h
    simp only at h
    split at h
    · assumption
    · cases h
theorem start_env {K : PySem.W.Frag} {z : Zs} {H : Hp} {vs : List V} {ds : List PyData} {N : List Str} (r : RvL K z H vs ds) : EvOk K z H (ds.map some ++ List.replicate (N.length - ds.length) none) (L2.start N vs) := by
  have hl : vs.length = ds.length := Paired.length r
  refine ⟨by unfold L2.start; simp [hl], fun k d e => ?_⟩
  have hk : k < ds.length := by
    by_cases hk : k < ds.length
    · exact hk
    · rw [List.getElem?_append_right (by simpa using hk), List.getElem?_replicate] at e
      split at e <;> cases e
  rw [List.getElem?_append_left (by simpa using hk), List.getElem?_map] at e
  have get : ∀ {vs : List V} {ds : List PyData} {k : Nat} {d : PyData}, RvL K z H vs ds → ds[k]? = some d → ∃ v, vs[k]? = some v ∧ Rv K z H v d := by
    intro vs ds k d r
    induction r generalizing k with
    | nil => intro e; simp at e
    | cons a b ih =>
      intro e
      cases k with
      | zero => simp at e; subst e; exact ⟨_, rfl, a⟩
      | succ k => simpa using ih (by simpa using e)
  cases ed : ds[k]? with
  | none => rw [ed] at e; cases e
  | some d' =>
    rw [ed] at e
    cases e
    obtain ⟨v, h1, h2⟩ := get r ed
    refine ⟨v, ?_, .inl h2⟩
    unfold L2.start
    rw [List.getElem?_append_left (by rw [List.length_map, hl]; exact hk), List.getElem?_map, h1]
    rfl
theorem take_pre {α : Type} {l a b : List α} (h : l = a ++ b) : l.take a.length = a := by
  rw [h, List.take_left']
  rfl
/-- the body's end is the call's end -/
theorem out_post {K : PySem.W.Frag} {z : Zs} {H : Hp} {fr : Bool} {o : Out} {d' : PyData} {S' : Sto} {Q : VK} (C : StC K z H) (e : outD z.S.length fr o = some (d', S'))
    (q : ∀ z' v H', z'.S = S' → z'.μ = z.μ → StC K z' H' → Sf z H z' H' → Dq K (z'.mask H') v d' → (fr = true → Fr K z H z' H' v d') → Q v H') :
    Post K z.S.length z H ⟨fun _ H' => Q .non H', Q, fun _ _ => False, fun _ _ => False⟩ o := by
  have fin : ∀ z1 v H1 d f, StC K z1 H1 → Sf z H z1 H1 → Dq K (z1.mask H1) v d → (f = true → FrT K z.S.length z H z1 H1 v d) → (d, z1.S.take z.S.length) = (d', S') → (fr && !f) = false → Q v H1 := by
    intro z1 v H1 d f C1 F1 D1 f1 e1 e2
    cases e1
    obtain ⟨c1, c2⟩ := C1.cut z.S.length
    obtain ⟨ν, hν⟩ := F1.ex
    have hm : z1.μ.take z.S.length = z.μ := by rw [← C.len]; exact take_pre hν
    refine q ⟨z1.G, z1.μ.take z.S.length, z1.S.take z.S.length⟩ v H1 rfl hm c1 ⟨F1.g, ⟨[], by rw [List.append_nil]; exact hm⟩, F1.le.trans c2, F1.gh, fun i c ei => ?_⟩ (D1.mono c2) fun hf => ?_
    · have hi : i < z.S.length := (List.getElem?_eq_some_iff.mp ei).1
      show (z1.S.take z.S.length)[i]? = _
      rw [List.getElem?_take_of_lt hi]
      exact F1.lk i c ei
    · have : f = true := by
        rw [hf] at e2
        simpa using e2
      exact f1 this
  cases o with
  | rt d f S =>
    unfold outD at e
    simp only at e
    split at e
    · cases e
    · next hff =>
      intro z1 v H1 s1 C1 F1 D1 f1
      subst s1
      exact fin z1 v H1 d f C1 F1 D1 f1 (Option.some.inj e) (Bool.eq_false_iff.mpr hff)
  | nx env S =>
    intro z1 σ1 H1 s1 C1 F1 E1
    subst s1
    refine fin z1 .non H1 .none true C1 F1 .non (fun _ _ e => by cases e) ?_ (by simp)
    exact Option.some.inj e
  | bk env S => cases e
  | ct env S => cases e

section
variable {P : Program} {w : World} {K : PySem.W.Frag} {mg : Str → Option Value} {base : Heap} {D : List Df} {kw : Kw} {W : Nat}
theorem fns_ok (hok : ∀ d ∈ D, okDf (nmOf D) kw d = true) (hbn : ∀ x ∈ bltNames, mg x = none) (L : ∀ i d, D[i]? = some d → ∃ fa fd, Lk K mg kw i d fa fd) :
    ∀ (k i : Nat) (d : Df) (fa : Addr) (fd : FuncData), D[i]? = some d → Fun K d.nm d.nm d.st fa fd → FnG P w K mg base CX0 k fa fd d.ps (spC K (evC (tbOf D) W k i) d.ps.length d.fr) := by
  intro k
  induction k with
  | zero =>
    intro i d fa fd hi F
    refine ⟨fun vs H Q E h => h.1, fun A outer s H args us vs Q E hr hg e0 hb rv h => ?_⟩
    obtain ⟨_, z, ds, d', S', _, _, e, _⟩ := h
    cases e
  | succ k ih =>
    intro i d fa fd hi F
    have hd := hok d (List.mem_of_getElem? hi)
    unfold okDf at hd
    rw [Bool.and_eq_true] at hd
    obtain ⟨hd1, hd2⟩ := hd
    have S := C8.fnScope_by hd1
    obtain ⟨oc, od, kV, doc, pm, an, cdv, ct, osl, rfl, lk, hcd⟩ := F.ex
    refine fnG_of lk hcd S (fun vs H Q E h => h.1) fun A outer s H vs Q E hr hg h => ?_
    obtain ⟨hlen, z, ds, d', S', C, R, e, q⟩ := h
    have htb : tbOf D i = some ⟨d.ps.length, d.N.length, d.fr, d.body⟩ := by unfold tbOf; rw [hi]; rfl
    unfold evC at e
    rw [htb] at e
    simp only at e
    split at e
    · next hnp =>
      obtain ⟨o, e1, e2⟩ := obind e
      have G : Gs (cxOf CX0 P w K mg base d.N d.nm (defScope d.st) fa cdv A outer s H E).nox ⟨d.N, nmOf D, kw⟩ (defScope d.st) (tbOf D) (evC (tbOf D) W k) := by
        refine ⟨⟨rfl, rfl, S.nd, rfl, hg, ?_, hbn, ?_, fun f ds S hf => evC_none hf, fun f fn ds S r hf he => evC_fit hf he⟩, fun _ => rfl, PassesOwn.never⟩
        · have := hr.un
          show (A.deeper _).units + 70 < cLine
          omega
        · intro f fn nm hf hn
          obtain ⟨d2, h2, rfl⟩ := omap (show (D[f]?).map (fun d => (⟨d.ps.length, d.N.length, d.fr, d.body⟩ : Fn)) = some fn from hf)
          have hn : (D[f]?).map (·.nm) = some nm := hn
          rw [h2] at hn
          cases hn
          obtain ⟨fa2, fd2, l1, l2, l3, l4⟩ := L f d2 h2
          exact ⟨fa2, fd2, d2.ps, k, l1, l2.kp, l3, rfl, hr, ih f d2 fa2 fd2 h2 l2, l4⟩
      refine ⟨_, ((body_ok (W := W) (n := z.S.length) d.body).2 _ _ _ G hd2).nox, ⟨z, _, o, C, ?_, e1, out_post C e2 q⟩⟩
      rw [← hnp]
      exact start_env R
    · cases e
end

/-! ### the law's own call -/
/-- the script alone is known to the heap's shadow, unless the module itself holds it -/
noncomputable def shadow (K : PySem.W.Frag) (a : Addr) (o : Obj) (xs : List V) : Hp := open Classical in fun b => if b = a ∧ K.lookup a = none then some (.frz o (.lst xs)) else none
theorem law_go {P : Program} {w : World} {K : PySem.W.Frag} {mg mb : Str → Option Value} {k : Nat} {fa a : Addr} {fd : FuncData} {x : Str} {sp : Sp} {s : Shared} {vs : List Value} {ns : List Int}
    (kin : K.In s.heap) (glb : s.heap.Ns mainGlobals mg) (blt : s.heap.Ns builtinsNs mb) (boot : ∀ y : Str, y ≠ "__name__" → mb y = bootBuiltins y) (nolim : s.heap.NoLimit) (gens : s.gens = #[])
    (scr : s.heap.get? a = some { cls := .type "list", data := .seq vs.toArray }) (hints : IntsAre vs ns) (few : ns.length ≤ sizeLine) (room : Room k callerA)
    (promise : ∀ base : Heap, K.In base → base.Ns mainGlobals mg → FnG P w K mg base CX0 k fa fd [x] sp) (one : ∀ (s : Shared) (u : Value), BindsTo s fd ⟨[u], []⟩ [(x, u)])
    (told : ∀ H : Hp, SqL K H a (ns.map V.int) → (∀ b, H b = none ∨ ∃ o xs, H b = some (.frz o (.lst xs))) → sp [.ref a] H (fun v _ => v = .bl true) fun _ _ _ => False) :
    codeAny (model P w) callerA (.call (.ref fa) ⟨[.ref a], []⟩) (fun r t => r = .ok (.ret (.bool true)) ∧ OldK s.heap t.heap ∧ t.os = s.os ∧ AllBare t.gens) s := by
  have vals := vals_ints hints
  have size := hints.length
  have same := fun (o : Obj) (h : K.lookup a = some o) => (kin a o h).symm.trans scr
  let H : Hp := shadow K a { cls := .type "list", data := .seq vs.toArray } (ns.map V.int)
  have at_ : ∀ {b u}, H b = some u → b = a ∧ K.lookup a = none ∧ u = .frz { cls := .type "list", data := .seq vs.toArray } (.lst (ns.map V.int)) := fun {b u} h => by
    by_cases c : b = a ∧ K.lookup a = none
    · have : H b = _ := if_pos c
      rw [this] at h
      cases h
      exact ⟨c.1, c.2, rfl⟩
    · have : H b = none := if_neg c
      rw [this] at h; cases h
  have only : ∀ b, H b = none ∨ ∃ o xs, H b = some (.frz o (.lst xs)) := fun b => by
    cases h : H b with
    | none => exact .inl rfl
    | some u => exact .inr ⟨_, _, by rw [(at_ h).2.2]⟩
  have reads : SqL K H a (ns.map V.int) := by
    cases h : K.lookup a with
    | none => exact .inl (.inr ⟨_, if_pos ⟨rfl, h⟩⟩)
    | some o =>
      have := Option.some.inj (same o h)
      subst this
      exact .inr ⟨_, vs.toArray, _, h, rfl, rfl, rfl, by rw [List.size_toArray, size]; exact few, by simpa using vals⟩
  have laid : HOk P w H s.heap := fun b u h => by
    obtain ⟨rfl, _, rfl⟩ := at_ h
    exact ⟨scr, by rw [List.length_map]; exact few, vs, _, vals, scr⟩
  have seen : ∀ {b : Addr} {o : Obj}, s.heap.get? b = some o → (∃ es ep, o.data = .dict es ep) ∨ K.lookup b = some o → H b = none := fun {b o} h h2 => by
    cases q : H b with
    | none => rfl
    | some u =>
      obtain ⟨rfl, hn, _⟩ := at_ q
      rcases h2 with ⟨es, ep, h2⟩ | h2
      · rw [scr] at h
        cases h
        cases h2
      · rw [hn] at h2; cases h2
  have ns_ : ∀ {b : Addr} {m : Str → Option Value}, s.heap.Ns b m → (hidT s.heap H).Ns b m := fun {b m} ⟨o, es, ep, h1, h2, h3⟩ => ⟨o, es, ep, hidT_get h1 (seen h1 (.inl ⟨es, ep, h2⟩)), h2, h3⟩
  have kb : K.In (hidT s.heap H) := fun b o h => hidT_get (kin b o h) (seen (kin b o h) (.inr h))
  have md : Mod K mg (hidT s.heap H) := ⟨kb, ns_ glb, ⟨mb, ns_ blt, boot⟩, by obtain ⟨mc, h1, h2⟩ := nolim; exact ⟨mc, ns_ h1, h2⟩⟩
  have nob : ∀ {b : Addr}, b ∈ ([] : List Addr) → False := fun h => by cases h
  have e0 : Env0 P w K mg (hidT s.heap H) callerA [] s H := { frames := rfl, mod := md, bs := fun b o h => of_hidT h, bsz := Nat.le_of_eq (hidT_size _ _), funs := trivial, frf := fun b h => (nob h).elim, hok := laid, bare := .of_eq gens }
  have go := (promise _ kb (ns_ glb)).go callerA [] s H ⟨[.ref a], []⟩ [.ref a] [.ref a] (fun v _ => v = .bl true) (fun _ _ _ => False) room rfl e0 (one s (.ref a)) (.cons rfl .nil) (told H reads only)
  refine codeAny_mono go fun r t h => ?_
  match r, h with
  | .error e, h => exact h.elim
  | .ok .next, h => exact h.elim
  | .ok .brk, h => exact h.elim
  | .ok .cont, h => exact h.elim
  | .ok (.ret u), ⟨v, H', os, bare, un, hok', rv, hv⟩ =>
    subst hv
    cases (show u = Value.bool true from rv)
    refine ⟨rfl, OldK.of_keep fun b o hbo => ?_, os, bare⟩
    cases q : H b with
    | none => exact un.keep b o hbo q (fun h => nob h) (by simp)
    | some u =>
      obtain ⟨rfl, _, rfl⟩ := at_ q
      obtain ⟨l1, _⟩ := hok' _ _ (un.frzs _ _ _ q)
      rw [scr] at hbo
      cases hbo
      exact l1
/-- the goal that the head leaves -/
theorem law_walk {l : PySem.W.OpenLaw} {n k : Nat} {q : Program} {loose : List Str} {XP : (Str → Option Value) → Heap → Prop} {YP : World → Heap → Prop} {d : DefRec} {K : Params → PySem.W.Frag} {sp : PySem.W.Frag → Sp} {x : Str}
    (most : l.most = some n) (small : n ≤ sizeLine) (plain : d.params.defaults = []) (room : Room k callerA) (known : ∀ (w : World) (h : Heap), YP w h → (K w.params).In h)
    (promise : ∀ (w : World) (mg : Str → Option Value) (fa : Addr) (h : Heap), (K w.params).In h → h.Ns mainGlobals mg → mg d.name = some (.ref fa) →
      ∃ fd : FuncData, (∀ (s : Shared) (u : Value), BindsTo s fd ⟨[u], []⟩ [(x, u)]) ∧ ∀ base : Heap, (K w.params).In base → base.Ns mainGlobals mg → FnG l.prog w (K w.params) mg base CX0 k fa fd [x] (sp (K w.params)))
    (told : ∀ (K : PySem.W.Frag) (H : Hp) (a : Addr) (ns : List Int), ns.length ≤ n → SqL K H a (ns.map V.int) → (∀ b, H b = none ∨ ∃ o xs, H b = some (.frz o (.lst xs))) → sp K [.ref a] H (fun v _ => v = .bl true) fun _ _ _ => False) :
    PySem.W.WalkO q loose XP YP l.row.toRowW d [] (fun f vs => PySem.call f vs) := by
  refine Att.attach_call most plain fun w s₀ s₁ mg mb fa o pm cd doc a vs ns G Y ho hd hcd hmg hobj hints hlen hg => ?_
  have kin := known w _ Y
  obtain ⟨fd, one, F⟩ := promise w mg fa _ kin G.T.g hmg
  exact law_go kin G.T.g G.T.b G.T.builtins G.T.nolimit hg hobj hints (Nat.le_trans hlen small) room F one fun H h1 h2 => told _ H a ns hlen h1 h2
/-- the law's promise from the evaluation -/
theorem told_of {g : List PyData → Sto → Option (PyData × Sto)} {fr : Bool} {n : Nat} (hn : n ≤ 63) (he : ∀ ns : List Int, ns.length ≤ n → ∃ S, g [scrD ns] [] = some (.bool true, S)) (K : PySem.W.Frag) (H : Hp) (a : Addr) (ns : List Int) (hl : ns.length ≤ n)
    (hs : SqL K H a (ns.map V.int)) (_ : ∀ b, H b = none ∨ ∃ o xs, H b = some (.frz o (.lst xs))) : spC K g 1 fr [.ref a] H (fun v _ => v = .bl true) fun _ _ _ => False := by
  obtain ⟨S, e⟩ := he ns hl
  have hm : (⟨[], [], []⟩ : Zs).mask H = H := by
    funext b
    unfold Zs.mask
    rw [if_neg]
    rintro (h | ⟨i, c, h, _, _⟩)
    · cases h
    · simp at h
  refine ⟨rfl, ⟨[], [], []⟩, [scrD ns], _, S, ⟨rfl, .nil, fun g h => (by cases h), fun i b c h _ => by simp at h⟩, .cons (.inl ?_) .nil, e, fun z' v H' _ _ _ _ D _ => ?_⟩
  · rw [hm]; exact .scr hs (Nat.le_trans hl hn)
  · cases D; rfl
end TW
end
section
set_option Elab.async false
set_option linter.all false
set_option maxRecDepth 100000
/-! TwEnd: from the module's written part to the promises. -/
namespace TW
open PySem PySem.Spec PyProof.Rows L2
def HasN (K : PySem.W.Frag) (nm : Str) (st : Stmt) : Prop := ∃ (f : Addr) (oc : Value) (od : Option Addr) (kV doc pm : Value) (an : Option Addr) (cdv ct : Value) (osl : Array (Option Value)),
  PySem.W.nsIn K mainGlobals nm = some (some (.ref f)) ∧ K.lookup f = some ⟨oc, od, .func (PySem.W.fnOf nm nm (defArgs st) (defBody st) (defScope st) .none kV doc pm an cdv ct), osl⟩ ∧ PySem.W.codeIn K cdv nm = true ∧ PySem.W.keepIn K (.ref f) = true
theorem has_mk {K : PySem.W.Frag} {nm : Str} {st : Stmt} {f : Addr} {oc : Value} {od : Option Addr} {kV doc pm : Value} {an : Option Addr} {cdv ct : Value} {osl : Array (Option Value)} (a : PySem.W.nsIn K mainGlobals nm = some (some (.ref f)))
    (l : K.lookup f = some ⟨oc, od, .func (PySem.W.fnOf nm nm (defArgs st) (defBody st) (defScope st) .none kV doc pm an cdv ct), osl⟩) (c : PySem.W.codeIn K cdv nm = true) (k : PySem.W.keepIn K (.ref f) = true) : HasN K nm st :=
  ⟨f, oc, od, kV, doc, pm, an, cdv, ct, osl, a, l, c, k⟩
def Bnd (d : Df) : Prop := ∀ (kV doc pm : Value) (an : Option Addr) (cdv ct : Value) (us : List Value), us.length = d.ps.length →
  bindArgs (PySem.W.fnOf d.nm d.nm (defArgs d.st) (defBody d.st) (defScope d.st) .none kV doc pm an cdv ct) ⟨us, []⟩ = pure (d.ps.zip us)
def KBnd (d : Df) (ks : List Str) (perm : List Nat) : Prop := (perm.length = d.ps.length ∧ d.ps ≠ []) ∧ ∀ (kV doc pm : Value) (an : Option Addr) (cdv ct : Value) (ws : List Value), ws.length = ks.length →
  bindArgs (PySem.W.fnOf d.nm d.nm (defArgs d.st) (defBody d.st) (defScope d.st) .none kV doc pm an cdv ct) ⟨[], ks.zip ws⟩ = pure (d.ps.zip (perm.map fun j => ws.getD j .none))
theorem vals_getD : ∀ {zs : List V} {ws : List Value}, Vals zs ws → ∀ j, RelV (zs.getD j .non) (ws.getD j .none)
  | _, _, .nil, j => by simp; rfl
  | _, _, .cons a b, 0 => by simpa using a
  | _, _, .cons a b, j + 1 => by simpa using vals_getD b j
theorem vals_perm {zs : List V} {ws : List Value} (h : Vals zs ws) : ∀ perm : List Nat, Vals (perm.map fun j => zs.getD j .non) (perm.map fun j => ws.getD j .none)
  | [] => .nil
  | j :: js => .cons (vals_getD h j) (vals_perm h js)
theorem lk_of {K : PySem.W.Frag} {h : Heap} {mg : Str → Option Value} {kw : Kw} {i : Nat} {d : Df} (X : K.In h) (G : h.Ns mainGlobals mg) (H : HasN K d.nm d.st) (b : Bnd d) (kb : ∀ ks perm, (i, ks, perm) ∈ kw → KBnd d ks perm) : ∃ fa fd, Lk K mg kw i d fa fd := by
  obtain ⟨f, oc, od, kV, doc, pm, an, cdv, ct, osl, a, l, c, k⟩ := H
  have F := fun_mk l c k
  refine ⟨f, _, PySem.W.mg_of X G a, F, F.binds fun _ _ _ _ _ _ us hl => b _ _ _ _ _ _ us hl, fun ks perm hm => ?_⟩
  obtain ⟨⟨k1, k2⟩, k3⟩ := kb ks perm hm
  refine ⟨fun s us ws hK hl => ?_, fun {vs us zs ws} r rz => ?_⟩
  · unfold gK at hl ⊢
    by_cases hw : ws.length = ks.length
    · rw [if_pos hw] at hl ⊢
      have : us = [] := by
        rw [List.length_append, List.length_map, k1] at hl
        exact List.eq_nil_of_length_eq_zero (by omega)
      subst this
      rw [List.nil_append]
      exact .of_eq (k3 _ _ _ _ _ _ ws hw)
    · rw [if_neg hw] at hl
      exact absurd (List.eq_nil_of_length_eq_zero hl.symm) k2
  · unfold gK
    have e : zs.length = ws.length := rz.length
    rw [e]
    by_cases hw : ws.length = ks.length
    · rw [if_pos hw, if_pos hw]
      exact Vals.append r (vals_perm rz perm)
    · rw [if_neg hw, if_neg hw]
      exact .nil
/-- the law's def by its promise -/
theorem promise_of {l : PySem.W.OpenLaw} {w : World} {K : PySem.W.Frag} {h : Heap} {mg : Str → Option Value} {fa : Addr} {D : List Df} {kw : Kw} {W k i : Nat} {d : Df} (X : K.In h) (G : h.Ns mainGlobals mg) (hfa : mg d.nm = some (.ref fa)) (hi : D[i]? = some d) (hps : d.ps = [("script" : Str)])
    (hok : ∀ d ∈ D, okDf (nmOf D) kw d = true) (L : ∀ i d, D[i]? = some d → ∃ fa fd, Lk K mg kw i d fa fd) (Z : ∀ x ∈ bltNames, PySem.W.nsIn K mainGlobals x = some none) (b : Bnd d) :
    ∃ fd : FuncData, (∀ (s : Shared) (u : Value), BindsTo s fd ⟨[u], []⟩ [("script", u)]) ∧ ∀ base : Heap, K.In base → base.Ns mainGlobals mg → FnG l.prog w K mg base CX0 k fa fd [("script" : Str)] (spC K (evC (tbOf D) W k i) 1 d.fr) := by
  obtain ⟨fa2, fd, h1, h2, h3, h4⟩ := L i d hi
  rw [hfa] at h1
  cases h1
  refine ⟨fd, fun s u => ?_, fun base _ _ => ?_⟩
  · obtain ⟨oc, od, kV, doc, pm, an, cdv, ct, osl, rfl, lk, hcd⟩ := h2.ex
    have := b kV doc pm an cdv ct [u] (by rw [hps]; rfl)
    rw [hps] at this
    exact .of_eq this
  · have := fns_ok (P := l.prog) (w := w) (base := base) (W := W) hok (fun x hx => PySem.W.mg_none_of X G (Z x hx)) L k i d fa fd hi h2
    rw [hps] at this
    exact this
end TW
end
section
set_option Elab.async false
set_option linter.all false
set_option maxRecDepth 100000
/-! TwSimp: how the evaluator computes, for simp. -/
namespace TW
open PySem
/-- what stands under a tag is not looked into -/
inductive Tag {α : Sort _} (a : α) : Type
  | mk
def bnd {α β : Type} (x : Option α) (f : α → Option β) (_ : Tag f) : Option β := x.bind f
def mpd {α β : Type} (x : Option α) (f : α → β) (_ : Tag f) : Option β := x.map f
def cnd {α : Type} (c : Bool) (a b : α) (_ : Tag (a, b)) : α := if c then a else b
def forL (tg : T) (body : Evn → Sto → Option Out) (xs : List PyData) (env : Evn) (S : Sto) (_ : Tag body) : Option Out := forLoop tg body xs env S
def whlL (test : Evn → Sto → Option (Bool × Sto)) (body : Evn → Sto → Option Out) (n : Nat) (env : Evn) (S : Sto) (_ : Tag (test, body)) : Option Out := whlLoop test body n env S
def lcL (one : PyData → Sto → Option (Option PyData × Sto)) (xs acc : List PyData) (S : Sto) (_ : Tag one) : Option (List PyData × Sto) := lcLoop one xs acc S
section
variable {α β : Type}
theorem bnd_some (a : α) (f : α → Option β) (t : Tag f) : bnd (some a) f t = f a := rfl
theorem bnd_none (f : α → Option β) (t : Tag f) : bnd none f t = none := rfl
theorem mpd_some (a : α) (f : α → β) (t : Tag f) : mpd (some a) f t = some (f a) := rfl
theorem mpd_none (f : α → β) (t : Tag f) : mpd none f t = none := rfl
theorem cnd_true (a b : α) (t : Tag (a, b)) : cnd true a b t = a := rfl
theorem cnd_false (a b : α) (t : Tag (a, b)) : cnd false a b t = b := rfl
end
section
variable (tb : Tb) (F : Clf) (W n : Nat) (env : Evn) (S : Sto)
def vlD (d : PyData) (S : Sto) : Option (PyData × Sto) := if isGr d then none else some (d, S)
theorem vl_int (i : Int) (S : Sto) : vlD (.int i) S = some (.int i, S) := rfl
theorem vl_bool (i : Bool) (S : Sto) : vlD (.bool i) S = some (.bool i, S) := rfl
theorem vl_none (S : Sto) : vlD .none S = some (.none, S) := rfl
theorem vl_str (i : Str) (S : Sto) : vlD (.str i) S = some (.str i, S) := rfl
theorem vl_list (l : List PyData) (S : Sto) : vlD (.list l) S = some (.list l, S) := rfl
theorem vl_tuple (l : List PyData) (S : Sto) : vlD (.tuple l) S = some (.tuple l, S) := rfl
theorem vl_edict (S : Sto) : vlD (.dict []) S = some (.dict [], S) := rfl
theorem vl_cel (i : Nat) (S : Sto) : vlD (cel i) S = some (cel i, S) := rfl
theorem vl_scr (ns : List Int) (S : Sto) : vlD (scrD ns) S = some (scrD ns, S) := rfl
theorem e_var (k : Nat) : evE tb F (.var k) env S = match env[k]? with | some (some d) => vlD d S | _ => none := rfl
theorem e_int (i : Int) : evE tb F (.int i) env S = some (.int i, S) := rfl
theorem e_str (i : Str) : evE tb F (.str i) env S = some (.str i, S) := rfl
theorem e_bl (i : Bool) : evE tb F (.bl i) env S = some (.bool i, S) := rfl
theorem e_non : evE tb F .non env S = some (.none, S) := rfl
theorem e_edict : evE tb F .edict env S = some (.dict [], S) := rfl
theorem e_bin (o : Op) (a b : T) : evE tb F (.bin o a b) env S = bnd (evE tb F a env S) (fun r => bnd (evE tb F b env r.2) (fun q => mpd (binD o (peek q.2 r.1) (peek q.2 q.1)) (fun d => (d, q.2)) ⟨⟩) ⟨⟩) ⟨⟩ := rfl
theorem e_neg (a : T) : evE tb F (.neg a) env S = bnd (evE tb F a env S) (fun r => match r.1 with | .int i => some (.int (-i), r.2) | _ => none) ⟨⟩ := rfl
theorem e_cmp (o : Cp) (a b : T) : evE tb F (.cmp o a b) env S = bnd (evE tb F a env S) (fun r => bnd (evE tb F b env r.2) (fun q => mpd (cmpD o (peek q.2 r.1) (peek q.2 q.1)) (fun d => (.bool d, q.2)) ⟨⟩) ⟨⟩) ⟨⟩ := rfl
theorem e_chain (o p : Cp) (a b c : T) : evE tb F (.chain o p a b c) env S = bnd (evE tb F a env S) (fun r => bnd (evE tb F b env r.2) (fun q => bnd (cmpD o (peek q.2 r.1) (peek q.2 q.1)) (fun k =>
      cnd k (bnd (evE tb F c env q.2) (fun u => mpd (cmpD p (peek u.2 q.1) (peek u.2 u.1)) (fun d => (.bool d, u.2)) ⟨⟩) ⟨⟩) (some (.bool false, q.2)) ⟨⟩) ⟨⟩) ⟨⟩) ⟨⟩ := rfl
theorem e_and (a b : T) : evE tb F (.and a b) env S = bnd (evE tb F a env S) (fun r => bnd (isTrueD r.1) (fun k => cnd k (evE tb F b env r.2) (some (.bool false, r.2)) ⟨⟩) ⟨⟩) ⟨⟩ := rfl
theorem e_or (a b : T) : evE tb F (.or a b) env S = bnd (evE tb F a env S) (fun r => bnd (isTrueD r.1) (fun k => cnd k (some (.bool true, r.2)) (evE tb F b env r.2) ⟨⟩) ⟨⟩) ⟨⟩ := rfl
theorem e_not (a : T) : evE tb F (.not a) env S = bnd (evE tb F a env S) (fun r => mpd (isTrueD r.1) (fun k => (.bool (!k), r.2)) ⟨⟩) ⟨⟩ := rfl
theorem e_ite (c a b : T) : evE tb F (.ite c a b) env S = bnd (evE tb F c env S) (fun r => bnd (isTrueD r.1) (fun k => cnd k (evE tb F a env r.2) (evE tb F b env r.2) ⟨⟩) ⟨⟩) ⟨⟩ := rfl
theorem e_tup (es : T) : evE tb F (.tup es) env S = bnd (evL tb F es env S) (fun r => bnd (settleAll r.2 r.1) (fun q => if q.1.length ≤ line then some (.tuple q.1, q.2) else none) ⟨⟩) ⟨⟩ := rfl
theorem e_lst (es : T) : evE tb F (.lst es) env S = bnd (evL tb F es env S) (fun r => bnd (settleAll r.2 r.1) (fun q => if q.1.length ≤ line then some (.list q.1, q.2) else none) ⟨⟩) ⟨⟩ := rfl
theorem e_call (f : Nat) (rs : List Bool) (es : T) : evE tb F (.call f rs es) env S = bnd (evL tb F es env S) (fun r => bnd (settleBy rs r.2 r.1) (fun q => callD F f q.1 q.2) ⟨⟩) ⟨⟩ := rfl
theorem e_callk (f : Nat) (perm : List Nat) (es : T) : evE tb F (.callk f perm es) env S = bnd (evL tb F es env S) (fun r => bnd (settleAll r.2 r.1) (fun q => callD F f (perm.map fun j => q.1.getD j .none) q.2) ⟨⟩) ⟨⟩ := rfl
theorem e_bi (b : Bi) (es : T) : evE tb F (.bi b es) env S = bnd (evL tb F es env S) (fun r => mpd (biD b (r.1.map (peek r.2))) (fun d => (d, r.2)) ⟨⟩) ⟨⟩ := rfl
theorem e_mt (m : Mt) (o es : T) : evE tb F (.mt m o es) env S = bnd (evE tb F o env S) (fun r => bnd (evL tb F es env r.2) (fun q => mtD q.2 m r.1 q.1) ⟨⟩) ⟨⟩ := rfl
theorem e_idx (a i : T) : evE tb F (.idx a i) env S = bnd (evE tb F a env S) (fun r => bnd (evE tb F i env r.2) (fun q => mpd (idxD (peek q.2 r.1) q.1) (fun d => (d, q.2)) ⟨⟩) ⟨⟩) ⟨⟩ := rfl
theorem e_sl (a lo hi : T) : evE tb F (.sl a lo hi) env S = bnd (evE tb F a env S) (fun r => bnd (evO tb F lo env r.2) (fun q => bnd (evO tb F hi env q.2) (fun u => mpd (slD (peek u.2 r.1) q.1 u.1) (fun d => (d, u.2)) ⟨⟩) ⟨⟩) ⟨⟩) ⟨⟩ := rfl
theorem e_slr (a hi : T) : evE tb F (.slr a hi) env S = bnd (evE tb F a env S) (fun r => bnd (evO tb F hi env r.2) (fun q => mpd (slrD (peek q.2 r.1) q.1) (fun d => (d, q.2)) ⟨⟩) ⟨⟩) ⟨⟩ := rfl
/-- one turn of a comprehension -/
def lcOne (own : List Nat) (tg ifs el : T) (x : PyData) (S1 : Sto) : Option (Option PyData × Sto) :=
  bnd (bindT tg x (wipeE env own)) (fun e1 => bnd (evT tb F ifs e1 S1) (fun t => cnd t.1 (bnd (evE tb F el e1 t.2) (fun y => mpd (settle y.2 y.1) (fun z => (some z.1, z.2)) ⟨⟩) ⟨⟩) (some (none, t.2)) ⟨⟩) ⟨⟩) ⟨⟩
theorem e_lc (own : List Nat) (tg it ifs el : T) : evE tb F (.lc own tg it ifs el) env S = bnd (evI tb F it env S) (fun r => mpd (lcLoop (lcOne tb F env own tg ifs el) r.1 [] r.2.1) (fun q => (.list q.1, unlock r.2.2 q.2)) ⟨⟩) ⟨⟩ := rfl
theorem e_thaw (e : T) : evE tb F (.thaw e) env S = if frE tb e then bnd (evE tb F e env S) (fun r => match r.1 with | .list ds => some (cel r.2.length, r.2 ++ [(0, .list ds)]) | _ => none) ⟨⟩ else none := rfl
theorem e_lrng (es : T) : evE tb F (.lrng es) env S = bnd (evL tb F es env S) (fun r => bnd (rngD r.1) (fun ds => if ds.length ≤ line then some (.list ds, r.2) else none) ⟨⟩) ⟨⟩ := rfl
theorem l_nil : evL tb F .nil env S = some ([], S) := rfl
theorem l_cons (a b : T) : evL tb F (.cons a b) env S = bnd (evE tb F a env S) (fun r => mpd (evL tb F b env r.2) (fun q => (r.1 :: q.1, q.2)) ⟨⟩) ⟨⟩ := rfl
theorem o_nil : evO tb F .nil env S = some (none, S) := rfl
theorem o_cons (a b : T) : evO tb F (.cons a b) env S = mpd (evE tb F a env S) (fun r => (some r.1, r.2)) ⟨⟩ := rfl
theorem t_nil : evT tb F .nil env S = some (true, S) := rfl
theorem t_cons (a b : T) : evT tb F (.cons a b) env S = bnd (evE tb F a env S) (fun r => mpd (isTrueD r.1) (fun k => (k, r.2)) ⟨⟩) ⟨⟩ := rfl
theorem i_rng (es : T) : evI tb F (.rng es) env S = bnd (evL tb F es env S) (fun r => mpd (rngD r.1) (fun ds => (ds, r.2, none)) ⟨⟩) ⟨⟩ := rfl
theorem i_cons (e b : T) : evI tb F (.cons e b) env S = bnd (evE tb F e env S) (fun r => beginD r.2 r.1) ⟨⟩ := rfl
theorem s_asg (tg e : T) : evS tb F W n (.asg tg e) env S = bnd (evE tb F e env S) (fun r => bnd (settle r.2 r.1) (fun q => mpd (bindT tg q.1 env) (fun e1 => .nx e1 q.2) ⟨⟩) ⟨⟩) ⟨⟩ := rfl
theorem s_asgm (k : Nat) (e : T) : evS tb F W n (.asgm k e) env S = if frE tb e && decide (k < env.length) then bnd (evE tb F e env S) (fun r => match r.1 with | .list ds => some (.nx (env.set k (some (cel r.2.length))) (r.2 ++ [(0, .list ds)])) | _ => none) ⟨⟩ else none := rfl
theorem s_asgi (k : Nat) (i e : T) : evS tb F W n (.asgi k i e) env S = bnd (evE tb F e env S) (fun r => bnd (settle r.2 r.1) (fun q => bnd (evE tb F i env q.2) (fun j => match env[k]?, j.1 with
      | some (some d), .int n => match celOf d with
        | some c => match j.2[c]? with
          | some (0, .list xs) => mpd (ixD xs.length n) (fun m => .nx env (j.2.set c (0, .list (xs.set m q.1)))) ⟨⟩
          | _ => none
        | none => none
      | _, _ => none) ⟨⟩) ⟨⟩) ⟨⟩ := rfl
theorem s_par (ks : List (Nat × Bool)) (es : T) : evS tb F W n (.par ks es) env S = bnd (evL tb F es env S) (fun r => bnd (settleBy (ks.map (·.2)) r.2 r.1) (fun q => mpd (setsE ks q.1 env) (fun e1 => .nx e1 q.2) ⟨⟩) ⟨⟩) ⟨⟩ := rfl
theorem s_asgii (k : Nat) (i j e : T) : evS tb F W n (.asgii k i j e) env S = bnd (evE tb F e env S) (fun r => bnd (settle r.2 r.1) (fun q => bnd (evE tb F i env q.2) (fun u => bnd (evE tb F j env u.2) (fun w => match env[k]?, u.1, w.1 with
      | some (some d), .int m, .int p => bnd (grOf d) (fun js => bnd (ixD js.length m) (fun a => bnd (js[a]?) (fun c => match w.2[c]? with
        | some (0, .list xs) => mpd (ixD xs.length p) (fun b => .nx env (w.2.set c (0, .list (xs.set b q.1)))) ⟨⟩
        | _ => none) ⟨⟩) ⟨⟩) ⟨⟩
      | _, _, _ => none) ⟨⟩) ⟨⟩) ⟨⟩) ⟨⟩ := rfl
theorem s_retg (k : Nat) : evS tb F W n (.retg k) env S = match env[k]? with
    | some (some d) => bnd (grOf d) (fun js => mpd (freezeAll S js) (fun r => .rt (.list r.1) false r.2) ⟨⟩) ⟨⟩
    | _ => none := rfl
/-- one row -/
def rowOne (own : List Nat) (tg el : T) (x : PyData) (S1 : Sto) : Option (PyData × Sto) := bnd (bindT tg x (wipeE env own)) (fun e1 => evE tb F el e1 S1) ⟨⟩
theorem s_parr (i j l : Nat) (a b : T) (own : List Nat) (tg it el : T) : evS tb F W n (.parr i j l a b own tg it el) env S = if frE tb el && decide (l < env.length) then bnd (evE tb F a env S) (fun ra => bnd (evE tb F b env ra.2) (fun rb => bnd (evI tb F it env rb.2) (fun q =>
      if q.2.2 = none then bnd (rowsLoop (rowOne tb F env own tg el) q.1 [] q.2.1) (fun u => bnd (settle u.2 ra.1) (fun sa => mpd (settle sa.2 rb.1) (fun sb => .nx (((env.set i (some sa.1)).set j (some sb.1)).set l (some (grD u.1))) sb.2) ⟨⟩) ⟨⟩) ⟨⟩ else none) ⟨⟩) ⟨⟩) ⟨⟩
    else none := rfl
theorem s_ex (e : T) : evS tb F W n (.ex e) env S = mpd (evE tb F e env S) (fun r => .nx env r.2) ⟨⟩ := rfl
theorem s_ret (e : T) : evS tb F W n (.ret e) env S = bnd (evE tb F e env S) (fun r => mpd (settle r.2 r.1) (fun q => .rt q.1 (frE tb e && (celOf r.1).isNone) q.2) ⟨⟩) ⟨⟩ := rfl
theorem s_retm (k : Nat) : evS tb F W n (.retm k) env S = match env[k]? with
    | some (some d) => match celOf d with
      | some i => match S[i]? with
        | some (0, c) => some (.rt c (decide (n ≤ i)) (S.set i (2, c)))
        | some (2, c) => some (.rt c false S)
        | _ => none
      | none => none
    | _ => none := rfl
theorem s_retn : evS tb F W n .retn env S = some (.rt .none true S) := rfl
theorem s_iff (c a b : T) : evS tb F W n (.iff c a b) env S = bnd (evE tb F c env S) (fun r => bnd (isTrueD r.1) (fun k => cnd k (evB tb F W n a env r.2) (evB tb F W n b env r.2) ⟨⟩) ⟨⟩) ⟨⟩ := rfl
/-- a loop's body -/
def bodyF (b : T) (e1 : Evn) (S1 : Sto) : Option Out := evB tb F W n b e1 S1
theorem s_forr (tg it b : T) : evS tb F W n (.forr tg it b) env S = bnd (evI tb F it env S) (fun r => mpd (forLoop tg (bodyF tb F W n b) r.1 env r.2.1) (unlockO r.2.2) ⟨⟩) ⟨⟩ := rfl
def testF (c : T) (e1 : Evn) (S1 : Sto) : Option (Bool × Sto) := bnd (evE tb F c e1 S1) (fun r => mpd (isTrueD r.1) (fun k => (k, r.2)) ⟨⟩) ⟨⟩
theorem s_whl (c b : T) : evS tb F W n (.whl c b) env S = whlLoop (testF tb F c) (bodyF tb F W n b) W env S := rfl
theorem s_pas : evS tb F W n .pas env S = some (.nx env S) := rfl
theorem s_brk : evS tb F W n .brk env S = some (.bk env S) := rfl
theorem s_cnt : evS tb F W n .cnt env S = some (.ct env S) := rfl
/-- what comes behind a statement -/
def andThen (b : T) : Out → Option Out
  | .nx e1 S1 => evB tb F W n b e1 S1
  | o => some o
theorem b_nil : evB tb F W n .nil env S = some (.nx env S) := rfl
theorem b_cons (a b : T) : evB tb F W n (.cons a b) env S = bnd (evS tb F W n a env S) (andThen tb F W n b) ⟨⟩ := by
  show (evS tb F W n a env S).bind _ = (evS tb F W n a env S).bind _
  exact congrArg (evS tb F W n a env S).bind (funext fun o => by cases o <;> rfl)
theorem th_nx (b : T) (e : Evn) : andThen tb F W n b (.nx e S) = evB tb F W n b e S := rfl
theorem th_rt (b : T) (d : PyData) (f : Bool) : andThen tb F W n b (.rt d f S) = some (.rt d f S) := rfl
theorem th_bk (b : T) (e : Evn) : andThen tb F W n b (.bk e S) = some (.bk e S) := rfl
theorem th_ct (b : T) (e : Evn) : andThen tb F W n b (.ct e S) = some (.ct e S) := rfl
end
theorem peek_int (S : Sto) (i : Int) : peek S (.int i) = .int i := rfl
theorem peek_bool (S : Sto) (i : Bool) : peek S (.bool i) = .bool i := rfl
theorem peek_none (S : Sto) : peek S .none = .none := rfl
theorem peek_str (S : Sto) (i : Str) : peek S (.str i) = .str i := rfl
theorem peek_list (S : Sto) (l : List PyData) : peek S (.list l) = .list l := rfl
theorem peek_tuple (S : Sto) (l : List PyData) : peek S (.tuple l) = .tuple l := rfl
theorem peek_edict (S : Sto) : peek S (.dict []) = .dict [] := rfl
theorem peek_cel (S : Sto) (i : Nat) : peek S (cel i) = match S[i]? with | some c => c.2 | none => cel i := rfl
theorem settle_int (S : Sto) (i : Int) : settle S (.int i) = some (.int i, S) := rfl
theorem settle_bool (S : Sto) (i : Bool) : settle S (.bool i) = some (.bool i, S) := rfl
theorem settle_none (S : Sto) : settle S .none = some (.none, S) := rfl
theorem settle_str (S : Sto) (i : Str) : settle S (.str i) = some (.str i, S) := rfl
theorem settle_list (S : Sto) (l : List PyData) : settle S (.list l) = some (.list l, S) := rfl
theorem settle_tuple (S : Sto) (l : List PyData) : settle S (.tuple l) = some (.tuple l, S) := rfl
theorem settle_edict (S : Sto) : settle S (.dict []) = some (.dict [], S) := rfl
theorem sb_nil (rs : List Bool) (S : Sto) : settleBy rs S [] = some ([], S) := by cases rs <;> rfl
theorem sb_t (rs : List Bool) (S : Sto) (d : PyData) (ds : List PyData) : settleBy (true :: rs) S (d :: ds) = mpd (settleBy rs S ds) (fun q => (d :: q.1, q.2)) ⟨⟩ := by
  show (settleBy rs S ds).bind _ = _
  cases settleBy rs S ds <;> rfl
theorem sb_f (rs : List Bool) (S : Sto) (d : PyData) (ds : List PyData) : settleBy (false :: rs) S (d :: ds) = bnd (settle S d) (fun r => mpd (settleBy rs r.2 ds) (fun q => (r.1 :: q.1, q.2)) ⟨⟩) ⟨⟩ := by
  show (settle S d).bind _ = _
  cases settle S d with
  | none => rfl
  | some r => show (settleBy rs r.2 ds).bind _ = (settleBy rs r.2 ds).map _; cases settleBy rs r.2 ds <;> rfl
theorem sb_e (S : Sto) (d : PyData) (ds : List PyData) : settleBy [] S (d :: ds) = bnd (settle S d) (fun r => mpd (settleBy [] r.2 ds) (fun q => (r.1 :: q.1, q.2)) ⟨⟩) ⟨⟩ := by
  show (settle S d).bind _ = _
  cases settle S d with
  | none => rfl
  | some r => show (settleBy [] r.2 ds).bind _ = (settleBy [] r.2 ds).map _; cases settleBy [] r.2 ds <;> rfl
theorem sa_nil (S : Sto) : settleAll S [] = some ([], S) := rfl
theorem sa_cons (S : Sto) (d : PyData) (ds : List PyData) : settleAll S (d :: ds) = bnd (settle S d) (fun r => mpd (settleAll r.2 ds) (fun q => (r.1 :: q.1, q.2)) ⟨⟩) ⟨⟩ := by
  show (settle S d).bind _ = _
  cases settle S d with
  | none => rfl
  | some r => show (settleAll r.2 ds).bind _ = (settleAll r.2 ds).map _; cases settleAll r.2 ds <;> rfl
theorem isTrueD_bool (b : Bool) : isTrueD (.bool b) = some b := rfl
theorem celOf_int (i : Int) : celOf (.int i) = none := rfl
theorem celOf_bool (i : Bool) : celOf (.bool i) = none := rfl
theorem celOf_none : celOf .none = none := rfl
theorem celOf_str (i : Str) : celOf (.str i) = none := rfl
theorem celOf_list (l : List PyData) : celOf (.list l) = none := rfl
theorem celOf_tuple (l : List PyData) : celOf (.tuple l) = none := rfl
theorem celOf_edict : celOf (.dict []) = none := rfl
theorem beginD_list (S : Sto) (l : List PyData) : beginD S (.list l) = some (l, S, none) := rfl
theorem beginD_tuple (S : Sto) (l : List PyData) : beginD S (.tuple l) = some (l, S, none) := rfl
theorem unlock_none (S : Sto) : unlock none S = S := rfl
theorem addD_int (i j : Int) : addD (.int i) (.int j) = some (.int (i + j)) := rfl
theorem addD_list (xs ys : List PyData) : addD (.list xs) (.list ys) = if xs.length + ys.length ≤ line then some (.list (xs ++ ys)) else none := rfl
theorem mulD_int (i j : Int) : mulD (.int i) (.int j) = if mulOk i j then some (.int (i * j)) else none := rfl
theorem idxD_list (ds : List PyData) (i : Int) : idxD (.list ds) (.int i) = (ixD ds.length i).bind fun j => ds[j]? := rfl
theorem idxD_tuple (ds : List PyData) (i : Int) : idxD (.tuple ds) (.int i) = (ixD ds.length i).bind fun j => ds[j]? := rfl
theorem eqD_int (i j : Int) : eqD (.int i) (.int j) = some (decide (i = j)) := rfl
theorem eqD_str (i j : Str) : eqD (.str i) (.str j) = some (decide (i = j)) := rfl
theorem outD_rt (n : Nat) (d : PyData) (f : Bool) (S : Sto) : outD n false (.rt d f S) = some (d, S.take n) := rfl
theorem outD_rtt (n : Nat) (d : PyData) (S : Sto) (fr : Bool) : outD n fr (.rt d true S) = some (d, S.take n) := by cases fr <;> rfl
theorem outD_nx (n : Nat) (e : Evn) (S : Sto) (fr : Bool) : outD n fr (.nx e S) = some (.none, S.take n) := rfl
/-- no changing list among the arguments -/
def plainD (ds : List PyData) : Bool := ds.all fun d => (celOf d).isNone
theorem cellsOf_plain : ∀ {ds : List PyData} {n : Nat}, plainD ds = true → cellsOf ds n = (ds, [])
  | [], _, _ => rfl
  | d :: ds, n, h => by
    unfold plainD at h
    rw [List.all_cons, Bool.and_eq_true] at h
    unfold cellsOf
    rw [Option.isNone_iff_eq_none.mp h.1]
    simp only [cellsOf_plain (ds := ds) (n := n) h.2]
/-- a call without changing lists -/
theorem callD_plain {F : Clf} {f : Nat} {ds : List PyData} {S : Sto} {d : PyData} (hp : plainD ds = true) (h : F f ds [] = some (d, [])) : callD F f ds S = some (d, S) := by
  unfold callD
  rw [cellsOf_plain hp]
  rw [if_pos List.nodup_nil]
  simp only [getAll, Option.bind_some, h, List.length_nil, if_true, putAll]
theorem evC_run {tb : Tb} {W k f : Nat} {fn : Fn} {ds : List PyData} {S : Sto} (hf : tb f = some fn) (hl : ds.length = fn.np) :
    evC tb W (k + 1) f ds S = bnd (evB tb (evC tb W k) W S.length fn.body (ds.map some ++ List.replicate (fn.nl - fn.np) none) S) (outD S.length fn.fr) ⟨⟩ := by
  show (match tb f with | none => none | some fn => if ds.length = fn.np then (evB tb (evC tb W k) W S.length fn.body (ds.map some ++ List.replicate (fn.nl - fn.np) none) S).bind (outD S.length fn.fr) else none) = _
  rw [hf]
  simp only [if_pos hl]
  rfl
/-! ### data of ints -/
abbrev iL (ns : List Int) : PyData := .list (ns.map .int)
theorem allInts_map : ∀ ns : List Int, allInts (ns.map .int) = some ns
  | [] => rfl
  | n :: ns => by
    show (allInts (ns.map .int)).map (n :: ·) = _
    rw [allInts_map ns]; rfl
theorem canLay_ints : ∀ ns : List Int, PyData.canLayAll0 (ns.map .int) = true
  | [] => rfl
  | n :: ns => by
    show (PyData.canLay0 (.int n) && PyData.canLayAll0 (ns.map .int)) = true
    rw [canLay_ints ns]; rfl
theorem depth_ints : ∀ ns : List Int, PyData.depthAll (ns.map .int) = 0
  | [] => rfl
  | n :: ns => by
    show max (PyData.depth (.int n)) (PyData.depthAll (ns.map .int)) = 0
    rw [depth_ints ns]; rfl
theorem shaped_ints (ns : List Int) : SeqAt.shaped (iL ns) = true := by
  unfold SeqAt.shaped
  simp only [PyData.canLay0, PyData.depth, canLay_ints, depth_ints]
  rfl
theorem eqv_ints : ∀ ns ms : List Int, PyData.eqvAll (ns.map .int) (ms.map .int) = decide (ns = ms)
  | [], [] => rfl
  | [], _ :: _ => rfl
  | _ :: _, [] => rfl
  | n :: ns, m :: ms => by
    show (n == m && PyData.eqvAll (ns.map .int) (ms.map .int)) = _
    rw [eqv_ints ns ms]
    by_cases h : n = m
    · subst h; simp
    · simp [h]
theorem eqD_ints (ns ms : List Int) : eqD (iL ns) (iL ms) = some (decide (ns = ms)) := by
  show eqS (iL ns) (iL ms) = _
  unfold eqS
  rw [shaped_ints, shaped_ints]
  show some (PyData.eqvAll (ns.map .int) (ms.map .int)) = _
  rw [eqv_ints]
theorem eqS_nil {xs : List PyData} (h : SeqAt.shaped (.list xs) = true) : eqD (.list xs) (.list []) = some (decide (xs = [])) := by
  show eqS (.list xs) (.list []) = _
  unfold eqS
  rw [h]
  cases xs <;> rfl

theorem cnd_and (a b : Bool) (S : Sto) (t) : cnd a (some (PyData.bool b, S)) (some (PyData.bool false, S)) t = some (.bool (a && b), S) := by cases a <;> rfl
theorem cnd_or (a b : Bool) (S : Sto) (t) : cnd a (some (PyData.bool true, S)) (some (PyData.bool b, S)) t = some (.bool (a || b), S) := by cases a <;> rfl
theorem le_line {n : Nat} (h : n ≤ 1000000) : n ≤ line := Nat.le_trans h (by unfold line; omega)
theorem lt_line {n : Nat} (h : n ≤ 1000000) : n < line := Nat.lt_of_le_of_lt h (by unfold line; omega)
/-! ### loops -/
theorem lcLoop_map {α : Type} {one : PyData → Sto → Option (Option PyData × Sto)} {f g : α → PyData} {p : α → Bool} {S : Sto} : ∀ (l : List α) (acc : List PyData), (∀ a ∈ l, one (f a) S = some (if p a then some (g a) else none, S)) → acc.length + l.length ≤ line →
    lcLoop one (l.map f) acc S = some (acc ++ (l.filter p).map g, S)
  | [], acc, _, _ => by simp [lcLoop]
  | a :: l, acc, h, hl => by
    have ha := h a (List.mem_cons_self ..)
    rw [List.length_cons] at hl
    show ((one (f a) S).bind _) = _
    rw [ha]
    by_cases hp : p a = true
    · simp only [hp, if_true, Option.bind_some]
      rw [if_pos (by omega), lcLoop_map l (acc ++ [g a]) (fun b hb => h b (List.mem_cons_of_mem _ hb)) (by rw [List.length_append, List.length_singleton]; omega)]
      rw [List.filter_cons_of_pos hp]
      simp
    · simp only [hp, if_false, Option.bind_some, Bool.false_eq_true]
      rw [lcLoop_map l acc (fun b hb => h b (List.mem_cons_of_mem _ hb)) (by omega), List.filter_cons_of_neg hp]
/-- all elements -/
theorem lcLoop_all {α : Type} {one : PyData → Sto → Option (Option PyData × Sto)} {f g : α → PyData} {S : Sto} (l : List α) (h : ∀ a ∈ l, one (f a) S = some (some (g a), S)) (hl : l.length ≤ line) : lcLoop one (l.map f) [] S = some (l.map g, S) := by
  have := lcLoop_map (p := fun _ => true) (one := one) (f := f) (g := g) (S := S) l [] (fun a ha => by rw [h a ha]; rfl) (by simpa using hl)
  rw [this, List.filter_eq_self.mpr fun _ _ => rfl]
  rfl
theorem forLoop_ind {α : Type} {tg : T} {body : Evn → Sto → Option Out} {g : α → PyData} (P : Nat → Evn → Sto → Prop) (l : List α) {env : Evn} {S : Sto} (h0 : P 0 env S)
    (step : ∀ i a env S, l[i]? = some a → P i env S → ∃ e1 e2 S2, bindT tg (g a) env = some e1 ∧ (body e1 S = some (.nx e2 S2) ∨ body e1 S = some (.ct e2 S2)) ∧ P (i + 1) e2 S2) :
    ∃ env' S', forLoop tg body (l.map g) env S = some (.nx env' S') ∧ P l.length env' S' := by
  induction l generalizing env S P with
  | nil => exact ⟨env, S, rfl, h0⟩
  | cons a l ih =>
    obtain ⟨e1, e2, S2, h1, h2, h3⟩ := step 0 a env S rfl h0
    obtain ⟨env', S', h4, h5⟩ := ih (fun i => P (i + 1)) h3 fun i b env S hb hp => step (i + 1) b env S (by simpa using hb) hp
    refine ⟨env', S', ?_, h5⟩
    show (bindT tg (g a) env).bind _ = _
    rw [h1]
    simp only [Option.bind_some]
    rcases h2 with h2 | h2 <;> (rw [h2]; exact h4)
theorem whlLoop_ind {test : Evn → Sto → Option (Bool × Sto)} {body : Evn → Sto → Option Out} (P : Nat → Evn → Sto → Prop) (R : Evn → Sto → Prop)
    (step : ∀ m env S, P (m + 1) env S → ∃ S1 e2 S2, test env S = some (true, S1) ∧ body env S1 = some (.nx e2 S2) ∧ P m e2 S2) (stop : ∀ env S, P 0 env S → ∃ S1, test env S = some (false, S1) ∧ R env S1) :
    ∀ (m n : Nat) (env : Evn) (S : Sto), m < n → P m env S → ∃ env' S', whlLoop test body n env S = some (.nx env' S') ∧ R env' S'
  | 0, n + 1, env, S, _, h => by
    obtain ⟨S1, h1, h2⟩ := stop env S h
    refine ⟨env, S1, ?_, h2⟩
    show (test env S).bind _ = _
    rw [h1]; rfl
  | m + 1, n + 1, env, S, hn, h => by
    obtain ⟨S1, e2, S2, h1, h2, h3⟩ := step m env S h
    obtain ⟨env', S', h4, h5⟩ := whlLoop_ind P R step stop m n e2 S2 (by omega) h3
    refine ⟨env', S', ?_, h5⟩
    show (test env S).bind _ = _
    rw [h1]
    simp only [Option.bind_some, if_true, h2]
    exact h4
/-! ### ranges, sums, distinct ones -/
theorem intRange_map (lo : Int) (n : Nat) : intRange lo n = (List.range n).map fun (j : Nat) => PyData.int (lo + j) := rfl
theorem rngD_one {j : Nat} (h : j < 2 ^ 62) : rngD [.int (j : Int)] = some ((List.range j).map fun (i : Nat) => PyData.int i) := by
  unfold rngD
  have e : (decide (-(2 ^ 62) ≤ (j : Int)) && decide ((j : Int) < 2 ^ 62)) = true := by
    simp only [Bool.and_eq_true, decide_eq_true_eq]
    omega
  simp only [e, if_true]
  unfold intRange
  rw [Int.toNat_natCast]
  exact congrArg some (List.map_congr_left fun i _ => by rw [Int.zero_add])
theorem lenSetD_iL {ns : List Int} (h : ns.length ≤ 4000) : lenSetD (iL ns) = some (.int (metD ns)) := by
  show (allInts (ns.map .int)).bind _ = _
  rw [allInts_map]
  simp only [Option.bind_some, if_pos h]
theorem lenD_iL (ns : List Int) : lenD (iL ns) = some (.int ns.length) := by
  show some (PyData.int _) = _
  rw [List.length_map]
theorem eqD_nil (ns : List Int) : eqD (.list (ns.map .int)) (.list []) = some (decide (ns = [])) := eqD_ints ns []
theorem list_le (ns : List Int) (h : ns.length ≤ 1000000) : (ns.map PyData.int).length ≤ 16777216 := by rw [List.length_map]; omega
theorem ixD_0 (n : Nat) : ixD (n + 1) 0 = some 0 := by
  unfold ixD
  rw [if_pos (by decide), if_pos (by omega)]; rfl
theorem ixD_1 (n : Nat) : ixD (n + 2) 1 = some 1 := by
  unfold ixD
  rw [if_pos (by decide), if_pos (by omega)]; rfl
theorem ixD_2 (n : Nat) : ixD (n + 3) 2 = some 2 := by
  unfold ixD
  rw [if_pos (by decide), if_pos (by omega)]; rfl
theorem ixD_last (n : Nat) : ixD (n + 1) (-1) = some n := by
  unfold ixD
  rw [if_neg (by decide), if_pos (by omega)]
  exact congrArg some (by omega)
/-- two lists put together: with the length known (never let simp into the length: the kernel runs away) -/
theorem addD_ok {xs ys : List PyData} (h : xs.length + ys.length ≤ line) : addD (.list xs) (.list ys) = some (.list (xs ++ ys)) := if_pos h
end TW
end
section
set_option Elab.async false
set_option linter.all false
set_option maxRecDepth 100000
/-! TwRepr: what repr tells of small data. -/
namespace TW
open PySem
theorem reprD_ok {d : PyData} (h1 : d.showable = true) (h2 : d.canLay0 = true) (h3 : d.leavesShort 8 = true) (h4 : d.weight ≤ 1000000) (h5 : d.depth ≤ 64) : reprD d = some (.str d.shown) := by
  have h := PyData.shown_le 8 (by omega) d h3
  unfold reprD
  have e : (d.showable && d.canLay0 && decide (d.shown.length + 64 ≤ line) && decide (d.depth ≤ 64)) = true := by
    rw [h1, h2, decide_eq_true h5, decide_eq_true (show d.shown.length + 64 ≤ line by unfold line; omega)]; rfl
  rw [if_pos e]
/-- six figures or less -/
def tameI (i : Int) : Prop := i.natAbs < 1000000
theorem tame_short {i : Int} (h : tameI i) : (PyData.shown (.int i)).length ≤ 8 := by
  show (Str.ofString (toString i)).length ≤ 8
  rw [ofString_length]
  have := PySem.int_text_length_le10 (a := i) (k := 6) (by omega) (by unfold tameI at h; omega)
  omega
theorem tame_log {i : Int} (h : tameI i) : i.natAbs.log2 < 20 := by
  unfold tameI at h
  by_cases h0 : i.natAbs = 0
  · rw [h0]; decide
  · exact (Nat.log2_lt h0).mpr (by omega)
theorem tame_weight {i : Int} (h : tameI i) : (PyData.int i).weight ≤ 20 := by
  have := tame_log h
  show (if i == 0 then 0 else i.natAbs.log2 + 1) ≤ 20
  split <;> omega
theorem tame_all : ∀ ns : List Int, (∀ x ∈ ns, tameI x) → PyData.showableAll (ns.map .int) = true ∧ PyData.leavesShortAll 8 (ns.map .int) = true ∧ PyData.weightAll (ns.map .int) ≤ 21 * ns.length
  | [], _ => ⟨rfl, rfl, Nat.zero_le _⟩
  | n :: ns, h => by
    obtain ⟨h1, h2, h3⟩ := tame_all ns fun x hx => h x (List.mem_cons_of_mem _ hx)
    have hn := h n (List.mem_cons_self ..)
    have hl := tame_log hn
    have hw := tame_weight hn
    refine ⟨?_, ?_, ?_⟩
    · show (decide (n.natAbs.log2 < 1920) && PyData.showableAll (ns.map .int)) = true
      rw [h1, decide_eq_true (show n.natAbs.log2 < 1920 by omega)]; rfl
    · show (decide ((PyData.shown (.int n)).length ≤ 8) && PyData.leavesShortAll 8 (ns.map .int)) = true
      rw [h2, decide_eq_true (tame_short hn)]; rfl
    · show (PyData.int n).weight + 1 + PyData.weightAll (ns.map .int) ≤ 21 * (ns.length + 1)
      omega
theorem reprD_int {i : Int} (h : tameI i) : reprD (.int i) = some (.str (PyData.int i).shown) := by
  have hl := tame_log h
  refine reprD_ok ?_ rfl ?_ ?_ (Nat.zero_le _)
  · show decide (i.natAbs.log2 < 1920) = true
    exact decide_eq_true (by omega)
  · show decide ((PyData.shown (.int i)).length ≤ 8) = true
    exact decide_eq_true (tame_short h)
  · have := tame_weight h
    omega
theorem reprD_bool (b : Bool) : reprD (.bool b) = some (.str (PyData.bool b).shown) := reprD_ok rfl rfl rfl (Nat.zero_le _) (Nat.zero_le _)
theorem reprD_iL {ns : List Int} (h : ∀ x ∈ ns, tameI x) (hl : ns.length ≤ 40000) : reprD (iL ns) = some (.str (iL ns).shown) := by
  obtain ⟨h1, h2, h3⟩ := tame_all ns h
  refine reprD_ok h1 (canLay_ints ns) h2 ?_ ?_
  · show PyData.weightAll (ns.map .int) ≤ 1000000
    omega
  · show PyData.depthAll (ns.map .int) + 1 ≤ 64
    rw [depth_ints]; omega
/-- grids -/
theorem tame_rows {R : Nat} : ∀ g : List (List Int), (∀ r ∈ g, r.length ≤ R ∧ ∀ x ∈ r, tameI x) →
    PyData.showableAll (g.map fun r => iL r) = true ∧ PyData.leavesShortAll 8 (g.map fun r => iL r) = true ∧ PyData.weightAll (g.map fun r => iL r) ≤ (21 * R + 1) * g.length ∧ PyData.canLayAll0 (g.map fun r => iL r) = true ∧ PyData.depthAll (g.map fun r => iL r) ≤ 1
  | [], _ => ⟨rfl, rfl, Nat.zero_le _, rfl, Nat.zero_le _⟩
  | r :: g, h => by
    obtain ⟨h1, h2, h3, h4, h5⟩ := tame_rows (R := R) g fun x hx => h x (List.mem_cons_of_mem _ hx)
    obtain ⟨a0, a1⟩ := h r (List.mem_cons_self ..)
    obtain ⟨b1, b2, b3⟩ := tame_all r a1
    refine ⟨?_, ?_, ?_, ?_, ?_⟩
    · show (PyData.showableAll (r.map .int) && PyData.showableAll (g.map fun r => iL r)) = true
      rw [b1, h1]; rfl
    · show (PyData.leavesShortAll 8 (r.map .int) && PyData.leavesShortAll 8 (g.map fun r => iL r)) = true
      rw [b2, h2]; rfl
    · show PyData.weightAll (r.map .int) + 1 + PyData.weightAll (g.map fun r => iL r) ≤ (21 * R + 1) * (g.length + 1)
      rw [Nat.mul_add]
      have : 21 * r.length ≤ 21 * R := Nat.mul_le_mul_left _ a0
      omega
    · show (PyData.canLayAll0 (r.map .int) && PyData.canLayAll0 (g.map fun r => iL r)) = true
      rw [canLay_ints, h4]; rfl
    · show max (PyData.depthAll (r.map .int) + 1) (PyData.depthAll (g.map fun r => iL r)) ≤ 1
      rw [depth_ints]; omega
/-- a tuple of a grid and small whole numbers -/
theorem reprD_grid {R : Nat} {g : List (List Int)} {ns : List Int} (h : ∀ r ∈ g, r.length ≤ R ∧ ∀ x ∈ r, tameI x) (hn : ∀ x ∈ ns, tameI x) (hR : R ≤ 100) (hg : g.length ≤ 100) (hl : ns.length ≤ 100) :
    reprD (.tuple (.list (g.map fun r => iL r) :: ns.map .int)) = some (.str (PyData.tuple (.list (g.map fun r => iL r) :: ns.map .int)).shown) := by
  obtain ⟨h1, h2, h3, h4, h5⟩ := tame_rows g h
  obtain ⟨b1, b2, b3⟩ := tame_all ns hn
  refine reprD_ok ?_ ?_ ?_ ?_ ?_
  · show (PyData.showableAll (g.map fun r => iL r) && PyData.showableAll (ns.map .int)) = true
    rw [b1, h1]; rfl
  · show (PyData.canLayAll0 (g.map fun r => iL r) && PyData.canLayAll0 (ns.map .int)) = true
    rw [canLay_ints, h4]; rfl
  · show (PyData.leavesShortAll 8 (g.map fun r => iL r) && PyData.leavesShortAll 8 (ns.map .int)) = true
    rw [b2, h2]; rfl
  · show PyData.weightAll (g.map fun r => iL r) + 1 + PyData.weightAll (ns.map .int) ≤ 1000000
    have : (21 * R + 1) * g.length ≤ (21 * 100 + 1) * 100 := Nat.mul_le_mul (by omega) hg
    omega
  · show max (PyData.depthAll (g.map fun r => iL r) + 1) (PyData.depthAll (ns.map .int)) + 1 ≤ 64
    rw [depth_ints]; omega
end TW
end
section
set_option Elab.async false
set_option linter.all false
set_option maxRecDepth 100000
open PySem
/-! ### the terms of the defs (printed by gen.py) -/
namespace K50
abbrev i_is_whole : Nat := 0
abbrev i_is_between : Nat := 1
abbrev i_check_number : Nat := 2
abbrev i_times_over : Nat := 3
abbrev i_row_of_fits : Nat := 4
abbrev i_all_once : Nat := 5
abbrev i_square_fits : Nat := 6
abbrev i_swaps_in_square : Nat := 7
abbrev i_chain_fits : Nat := 8
abbrev i_check_chain : Nat := 9
abbrev i_ways_to : Nat := 10
abbrev i_how_many_slip : Nat := 11
abbrev i_how_many_right_lists : Nat := 12
abbrev i_law_cell : Nat := 13
abbrev i_law_hash : Nat := 14
abbrev i_law_generator : Nat := 15
abbrev i_law_random : Nat := 16
abbrev i_law_abelian : Nat := 17
abbrev i_law_dihedral : Nat := 18
abbrev i_law_group : Nat := 19
abbrev i_law_shuffled : Nat := 20
abbrev i_law_all_codes : Nat := 21
abbrev i_law_square : Nat := 22
abbrev i_law_swaps : Nat := 23
abbrev i_law_last : Nat := 24
abbrev i_law_slips : Nat := 25
abbrev i_law_reached : Nat := 26
abbrev i_law_counted : Nat := 27
abbrev i_law_uneven : Nat := 28
abbrev i_law_right : Nat := 29
abbrev i_law_power : Nat := 30
abbrev i_law : Nat := 31
def t_is_whole : TW.T := (.cons (.ret (.and (.bi .isInt (.cons (.var 0) .nil)) (.not (.bi .isBool (.cons (.var 0) .nil))))) .nil)
abbrev f_is_whole : TW.Fn := ⟨1, 1, false, t_is_whole⟩ -- 0:value
def t_is_between : TW.T := (.cons (.iff (.not (.call i_is_whole [] (.cons (.var 0) .nil))) (.cons (.ret (.bl false)) .nil) .nil) (.cons (.ret (.and (.or (.cmp .is (.var 1) .non) (.cmp .ge (.var 0) (.var 1))) (.or (.cmp .is (.var 2) .non) (.cmp .le (.var 0) (.var 2))))) .nil))
abbrev f_is_between : TW.Fn := ⟨3, 3, false, t_is_between⟩ -- 0:value 1:low 2:high
def t_check_number : TW.T := (.cons (.iff (.not (.call i_is_between [] (.cons (.var 0) (.cons (.var 1) (.cons (.var 2) .nil))))) (.cons .rais .nil) .nil) .nil)
abbrev f_check_number : TW.Fn := ⟨3, 3, true, t_check_number⟩ -- 0:number 1:low 2:high
def t_times_over : TW.T := (.cons (.asg (.var 2) (.int 1)) (.cons (.forr (.var 3) (.rng (.cons (.var 1) .nil)) (.cons (.asg (.var 2) (.bin .mul (.var 2) (.var 0))) .nil)) (.cons (.ret (.var 2)) .nil)))
abbrev f_times_over : TW.Fn := ⟨2, 4, false, t_times_over⟩ -- 0:number 1:many 2:found 3:_
def t_row_of_fits : TW.T := (.cons (.iff (.or (.not (.bi .isList (.cons (.var 1) .nil))) (.cmp .ne (.bi .len (.cons (.var 1) .nil)) (.var 0))) (.cons (.ret (.bl false)) .nil) .nil) (.cons (.ret (.cmp .eq (.lc [2] (.var 2) (.cons (.var 1) .nil) (.cons (.not (.call i_is_between [] (.cons (.var 2) (.cons (.int 0) (.cons (.bin .sub (.var 0) (.int 1)) .nil))))) .nil) (.var 2)) (.lst .nil))) .nil))
abbrev f_row_of_fits : TW.Fn := ⟨2, 3, false, t_row_of_fits⟩ -- 0:size 1:value 2:item
def t_all_once : TW.T := (.cons (.ret (.and (.call i_row_of_fits [] (.cons (.var 0) (.cons (.var 1) .nil))) (.cmp .eq (.bi .lenSet (.cons (.var 1) .nil)) (.var 0)))) .nil)
abbrev f_all_once : TW.Fn := ⟨2, 2, false, t_all_once⟩ -- 0:size 1:value
def t_square_fits : TW.T := (.cons (.iff (.or (.not (.bi .isList (.cons (.var 0) .nil))) (.cmp .lt (.bi .len (.cons (.var 0) .nil)) (.int 2))) (.cons (.ret (.bl false)) .nil) .nil) (.cons (.iff (.cmp .ne (.lc [1] (.var 1) (.cons (.var 0) .nil) (.cons (.not (.call i_all_once [] (.cons (.bi .len (.cons (.var 0) .nil)) (.cons (.var 1) .nil)))) .nil) (.var 1)) (.lst .nil)) (.cons (.ret (.bl false)) .nil) .nil) (.cons (.ret (.cmp .eq (.lc [2] (.var 2) (.rng (.cons (.bi .len (.cons (.var 0) .nil)) .nil)) (.cons (.not (.call i_all_once [] (.cons (.bi .len (.cons (.var 0) .nil)) (.cons (.lc [1] (.var 1) (.cons (.var 0) .nil) .nil (.idx (.var 1) (.var 2))) .nil)))) .nil) (.var 2)) (.lst .nil))) .nil)))
abbrev f_square_fits : TW.Fn := ⟨1, 3, false, t_square_fits⟩ -- 0:value 1:row 2:at
def t_swaps_in_square : TW.T := (.cons (.par [(1, true), (2, false)] (.cons (.thaw (.lst .nil)) (.cons (.lrng (.cons (.bi .len (.cons (.var 0) .nil)) .nil)) .nil))) (.cons (.forr (.tup (.cons (.var 3) (.cons (.var 4) .nil))) (.enumr (.var 0)) (.cons (.forr (.var 5) (.cons (.var 2) .nil) (.cons (.asg (.var 6) (.idx (.var 0) (.idx (.var 4) (.var 5)))) (.cons (.forr (.var 7) (.cons (.sl (.var 2) (.cons (.bin .add (.var 5) (.int 1)) .nil) .nil) .nil) (.cons (.iff (.cmp .eq (.idx (.var 6) (.var 7)) (.idx (.idx (.var 0) (.idx (.var 4) (.var 7))) (.var 5))) (.cons (.ex (.mt .append (.var 1) (.cons (.tup (.cons (.var 3) (.cons (.var 5) (.cons (.var 7) .nil)))) .nil))) .nil) .nil) .nil)) .nil))) .nil)) (.cons (.retm 1) .nil)))
abbrev f_swaps_in_square : TW.Fn := ⟨1, 8, true, t_swaps_in_square⟩ -- 0:square 1:found 2:plain 3:state 4:row 5:one 6:after 7:other
def t_chain_fits : TW.T := (.cons (.iff (.or (.not (.bi .isTuple (.cons (.var 0) .nil))) (.or (.cmp .ne (.bi .len (.cons (.var 0) .nil)) (.int 3)) (.not (.call i_square_fits [] (.cons (.idx (.var 0) (.int 0)) .nil))))) (.cons (.ret (.bl false)) .nil) .nil) (.cons (.ret (.cmp .eq (.lc [1] (.var 1) (.cons (.sl (.var 0) (.cons (.int 1) .nil) .nil) .nil) (.cons (.not (.call i_is_between [] (.cons (.var 1) (.cons (.int 0) (.cons (.bin .sub (.bi .len (.cons (.idx (.var 0) (.int 0)) .nil)) (.int 1)) .nil))))) .nil) (.var 1)) (.lst .nil))) .nil))
abbrev f_chain_fits : TW.Fn := ⟨1, 2, false, t_chain_fits⟩ -- 0:value 1:state
def t_check_chain : TW.T := (.cons (.iff (.not (.call i_chain_fits [] (.cons (.var 0) .nil))) (.cons .rais .nil) .nil) .nil)
abbrev f_check_chain : TW.Fn := ⟨1, 1, true, t_check_chain⟩ -- 0:chain
def t_ways_to : TW.T := (.cons (.ret (.ite (.cmp .gt (.var 1) (.int 0)) (.call i_times_over [] (.cons (.var 0) (.cons (.bin .sub (.var 1) (.int 1)) .nil))) (.bi .int (.cons (.var 2) .nil)))) .nil)
abbrev f_ways_to : TW.Fn := ⟨3, 3, false, t_ways_to⟩ -- 0:size 1:length 2:alike
def t_how_many_slip : TW.T := (.cons (.ex (.call i_check_chain [] (.cons (.var 0) .nil))) (.cons (.ex (.call i_check_number [] (.cons (.var 1) (.cons (.int 2) (.cons .non .nil))))) (.cons (.ex (.call i_check_number [] (.cons (.var 2) (.cons (.int 0) (.cons (.bin .sub (.var 1) (.int 2)) .nil))))) (.cons (.asg (.tup (.cons (.var 3) (.cons (.var 4) (.cons (.var 5) .nil)))) (.var 0)) (.cons (.par [(6, false), (7, false)] (.cons (.bi .len (.cons (.var 3) .nil)) (.cons (.int 0) .nil))) (.cons (.forr (.tup (.cons (.var 8) (.cons (.var 9) (.cons (.var 10) .nil)))) (.cons (.call i_swaps_in_square [] (.cons (.var 3) .nil)) .nil) (.cons (.asg (.var 11) (.idx (.idx (.var 3) (.idx (.idx (.var 3) (.var 8)) (.var 9))) (.var 10))) (.cons (.asg (.var 12) (.call i_ways_to [] (.cons (.var 6) (.cons (.var 2) (.cons (.cmp .eq (.var 8) (.var 4)) .nil))))) (.cons (.asg (.var 7) (.bin .add (.var 7) (.bin .mul (.bin .mul (.int 2) (.var 12)) (.call i_ways_to [] (.cons (.var 6) (.cons (.bin .sub (.bin .sub (.var 1) (.var 2)) (.int 2)) (.cons (.cmp .eq (.var 11) (.var 5)) .nil))))))) .nil)))) (.cons (.ret (.var 7)) .nil)))))))
abbrev f_how_many_slip : TW.Fn := ⟨3, 13, false, t_how_many_slip⟩ -- 0:chain 1:length 2:place 3:square 4:start 5:end 6:size 7:found 8:state 9:one 10:other 11:last 12:ahead
def t_how_many_right_lists : TW.T := (.cons (.ex (.call i_check_chain [] (.cons (.var 0) .nil))) (.cons (.ex (.call i_check_number [] (.cons (.var 1) (.cons (.int 1) (.cons .non .nil))))) (.cons (.ret (.call i_times_over [] (.cons (.bi .len (.cons (.idx (.var 0) (.int 0)) .nil)) (.cons (.bin .sub (.var 1) (.int 1)) .nil)))) .nil)))
abbrev f_how_many_right_lists : TW.Fn := ⟨2, 2, false, t_how_many_right_lists⟩ -- 0:chain 1:length
def t_law_cell : TW.T := (.cons (.iff (.cmp .lt (.var 1) (.bi .len (.cons (.var 0) .nil))) (.cons (.ret (.idx (.var 0) (.var 1))) .nil) .nil) (.cons (.ret (.bin .mod (.bi .sum (.cons (.sl (.var 0) .nil (.cons (.int 1) .nil)) .nil)) (.int 1000003))) .nil))
abbrev f_law_cell : TW.Fn := ⟨2, 2, false, t_law_cell⟩ -- 0:script 1:index
def t_law_hash : TW.T := (.cons (.asg (.var 2) (.bin .mod (.bi .int (.cons (.bin .add (.bin .add (.bin .add (.bin .mul (.var 0) (.int 1140671)) (.bin .mul (.bin .mul (.int 27644437) (.var 1)) (.var 1))) (.bin .mul (.int 131) (.var 1))) (.int 19)) .nil)) (.int 2147483629))) (.cons (.asg (.var 2) (.bin .mod (.bi .int (.cons (.bin .add (.bin .add (.bin .mul (.var 2) (.var 2)) (.bin .mul (.int 62089) (.var 1))) (.int 32416187)) .nil)) (.int 2147483587))) (.cons (.ret (.bin .mod (.bi .int (.cons (.bin .mul (.var 2) (.int 48271)) .nil)) (.int 2147483647))) .nil)))
abbrev f_law_hash : TW.Fn := ⟨2, 3, false, t_law_hash⟩ -- 0:seed 1:index 2:mixed
def t_law_generator : TW.T := (.cons (.asg (.var 2) (.call i_law_cell [] (.cons (.var 0) (.cons (.var 1) .nil)))) (.cons (.ret (.lst (.cons (.bin .mod (.bi .int (.cons (.bi .max2 (.cons (.bin .sub (.var 2) (.bin .pow (.int 10) (.int 18))) (.cons (.int 0) .nil))) .nil)) (.bin .pow (.bin .pow (.int 10) (.int 60)) (.int 10))) (.cons (.bin .mod (.bi .int (.cons (.var 2) .nil)) (.int 2147483647)) (.cons (.bin .mul (.int 1000) (.var 1)) .nil))))) .nil))
abbrev f_law_generator : TW.Fn := ⟨2, 3, true, t_law_generator⟩ -- 0:script 1:index 2:seed
def t_law_random : TW.T := (.cons (.iff (.cmp .gt (.idx (.var 0) (.int 0)) (.int 0)) (.cons (.asg (.var 2) (.bin .mod (.bi .int (.cons (.idx (.var 0) (.int 0)) .nil)) (.var 1))) (.cons (.asgi 0 (.int 0) (.bin .fdiv (.idx (.var 0) (.int 0)) (.var 1))) (.cons (.ret (.var 2)) .nil))) .nil) (.cons (.asg (.var 2) (.int 0)) (.cons (.forr (.var 3) (.rng (.cons (.bin .add (.int 1) (.bin .fdiv (.mt .bitLength (.var 1) .nil) (.int 30))) .nil)) (.cons (.asgi 0 (.int 2) (.bin .add (.idx (.var 0) (.int 2)) (.int 1))) (.cons (.asg (.var 2) (.bin .add (.bin .mul (.var 2) (.int 2147483587)) (.call i_law_hash [] (.cons (.idx (.var 0) (.int 1)) (.cons (.idx (.var 0) (.int 2)) .nil))))) .nil))) (.cons (.ret (.bin .mod (.bi .int (.cons (.var 2) .nil)) (.var 1))) .nil))))
abbrev f_law_random : TW.Fn := ⟨2, 4, false, t_law_random⟩ -- 0:generator 1:limit 2:drawn 3:turn
def t_law_abelian : TW.T := (.cons (.asg (.var 1) (.int 1)) (.cons (.forr (.var 2) (.cons (.var 0) .nil) (.cons (.asg (.var 1) (.bin .mul (.var 1) (.var 2))) .nil)) (.cons (.asgm 3 (.lst .nil)) (.cons (.forr (.var 4) (.rng (.cons (.var 1) .nil)) (.cons (.asgm 5 (.lst .nil)) (.cons (.forr (.var 6) (.rng (.cons (.var 1) .nil)) (.cons (.asg (.tup (.cons (.var 7) (.cons (.var 8) (.cons (.var 9) (.cons (.var 10) .nil))))) (.tup (.cons (.var 4) (.cons (.var 6) (.cons (.int 1) (.cons (.int 0) .nil)))))) (.cons (.forr (.var 2) (.cons (.slr (.var 0) .nil) .nil) (.cons (.asg (.var 10) (.bin .add (.var 10) (.bin .mul (.var 9) (.bin .mod (.bi .int (.cons (.bin .add (.var 7) (.var 8)) .nil)) (.var 2))))) (.cons (.par [(7, false), (8, false), (9, false)] (.cons (.bin .fdiv (.var 7) (.var 2)) (.cons (.bin .fdiv (.var 8) (.var 2)) (.cons (.bin .mul (.var 9) (.var 2)) .nil)))) .nil))) (.cons (.ex (.mt .append (.var 5) (.cons (.var 10) .nil))) .nil)))) (.cons (.ex (.mt .append (.var 3) (.cons (.var 5) .nil))) .nil)))) (.cons (.retm 3) .nil)))))
abbrev f_law_abelian : TW.Fn := ⟨1, 11, true, t_law_abelian⟩ -- 0:orders 1:sizes 2:order 3:table 4:one 5:row 6:other 7:left 8:right 9:here 10:whole
def t_law_dihedral : TW.T := (.cons (.asgm 1 (.lst .nil)) (.cons (.forr (.var 2) (.rng (.cons (.bin .mul (.int 2) (.var 0)) .nil)) (.cons (.asgm 3 (.lst .nil)) (.cons (.forr (.var 4) (.rng (.cons (.bin .mul (.int 2) (.var 0)) .nil)) (.cons (.asg (.var 5) (.ite (.cmp .lt (.var 2) (.var 0)) (.bin .mod (.bi .int (.cons (.bin .add (.var 2) (.var 4)) .nil)) (.var 0)) (.bin .mod (.bi .int (.cons (.bin .sub (.var 2) (.var 4)) .nil)) (.var 0)))) (.cons (.ex (.mt .append (.var 3) (.cons (.bin .add (.var 5) (.bin .mul (.var 0) (.bi .int (.cons (.cmp .ne (.cmp .lt (.var 2) (.var 0)) (.cmp .lt (.var 4) (.var 0))) .nil)))) .nil))) .nil))) (.cons (.ex (.mt .append (.var 1) (.cons (.var 3) .nil))) .nil)))) (.cons (.retm 1) .nil)))
abbrev f_law_dihedral : TW.Fn := ⟨1, 6, true, t_law_dihedral⟩ -- 0:turns 1:found 2:one 3:row 4:other 5:step
def t_law_group : TW.T := (.cons (.asg (.var 1) (.call i_law_random [true, false] (.cons (.var 0) (.cons (.int 4) .nil)))) (.cons (.iff (.cmp .eq (.var 1) (.int 0)) (.cons (.ret (.call i_law_dihedral [] (.cons (.bin .add (.int 3) (.call i_law_random [true, false] (.cons (.var 0) (.cons (.int 3) .nil)))) .nil))) .nil) .nil) (.cons (.asg (.var 2) (.lst (.cons (.tup (.cons (.int 2) .nil)) (.cons (.tup (.cons (.int 3) .nil)) (.cons (.tup (.cons (.int 4) .nil)) (.cons (.tup (.cons (.int 2) (.cons (.int 2) .nil))) (.cons (.tup (.cons (.int 5) .nil)) (.cons (.tup (.cons (.int 6) .nil)) (.cons (.tup (.cons (.int 7) .nil)) (.cons (.tup (.cons (.int 8) .nil)) (.cons (.tup (.cons (.int 2) (.cons (.int 4) .nil))) (.cons (.tup (.cons (.int 2) (.cons (.int 2) (.cons (.int 2) .nil)))) (.cons (.tup (.cons (.int 3) (.cons (.int 3) .nil))) (.cons (.tup (.cons (.int 9) .nil)) (.cons (.tup (.cons (.int 10) .nil)) (.cons (.tup (.cons (.int 2) (.cons (.int 6) .nil))) .nil)))))))))))))))) (.cons (.ret (.call i_law_abelian [] (.cons (.idx (.var 2) (.call i_law_random [true, false] (.cons (.var 0) (.cons (.bi .len (.cons (.var 2) .nil)) .nil)))) .nil))) .nil))))
abbrev f_law_group : TW.Fn := ⟨1, 3, true, t_law_group⟩ -- 0:generator 1:way 2:menu
def t_law_shuffled : TW.T := (.cons (.par [(2, true), (3, true)] (.cons (.thaw (.lrng (.cons (.var 1) .nil))) (.cons (.thaw (.lst .nil)) .nil))) (.cons (.whl (.cmp .ne (.var 2) (.lst .nil)) (.cons (.ex (.mt .append (.var 3) (.cons (.mt .popAt (.var 2) (.cons (.call i_law_random [true, false] (.cons (.var 0) (.cons (.bi .len (.cons (.var 2) .nil)) .nil))) .nil)) .nil))) .nil)) (.cons (.retm 3) .nil)))
abbrev f_law_shuffled : TW.Fn := ⟨2, 4, true, t_law_shuffled⟩ -- 0:generator 1:size 2:left 3:found
def t_law_all_codes : TW.T := (.cons (.asg (.var 2) (.lst (.cons (.lst .nil) .nil))) (.cons (.forr (.var 3) (.rng (.cons (.var 1) .nil)) (.cons (.asg (.var 4) (.lst .nil)) (.cons (.forr (.var 5) (.cons (.var 2) .nil) (.cons (.asg (.var 4) (.bin .add (.var 4) (.lc [6] (.var 6) (.rng (.cons (.var 0) .nil)) .nil (.bin .add (.var 5) (.lst (.cons (.var 6) .nil)))))) .nil)) (.cons (.asg (.var 2) (.var 4)) .nil)))) (.cons (.ret (.var 2)) .nil)))
abbrev f_law_all_codes : TW.Fn := ⟨2, 7, false, t_law_all_codes⟩ -- 0:size 1:places 2:found 3:turn 4:longer 5:code 6:sign
def t_law_square : TW.T := (.cons (.asg (.var 1) (.call i_law_random [true, false] (.cons (.var 0) (.cons (.int 4) .nil)))) (.cons (.iff (.cmp .eq (.var 1) (.int 0)) (.cons (.asg (.var 7) (.idx (.lst (.cons (.int 3) (.cons (.int 4) (.cons (.int 5) (.cons (.int 6) (.cons (.int 7) (.cons (.int 8) (.cons (.int 9) .nil)))))))) (.call i_law_random [true, false] (.cons (.var 0) (.cons (.int 7) .nil))))) (.cons (.asg (.var 8) (.lc [9] (.var 9) (.rng (.cons (.int 1) (.cons (.var 7) .nil))) (.cons (.cmp .eq (.lc [13] (.var 13) (.rng (.cons (.int 2) (.cons (.var 7) .nil))) (.cons (.and (.cmp .eq (.bin .mod (.var 7) (.var 13)) (.int 0)) (.cmp .eq (.bin .mod (.var 9) (.var 13)) (.int 0))) .nil) (.var 13)) (.lst .nil)) .nil) (.var 9))) (.cons (.asg (.var 9) (.idx (.var 8) (.call i_law_random [true, false] (.cons (.var 0) (.cons (.bi .len (.cons (.var 8) .nil)) .nil))))) (.cons (.ret (.lc [11] (.var 11) (.rng (.cons (.var 7) .nil)) .nil (.lc [12] (.var 12) (.rng (.cons (.var 7) .nil)) .nil (.bin .mod (.bi .int (.cons (.bin .add (.bin .mul (.var 9) (.var 11)) (.var 12)) .nil)) (.var 7))))) .nil)))) .nil) (.cons (.asg (.var 2) (.call i_law_group [true] (.cons (.var 0) .nil))) (.cons (.asg (.tup (.cons (.var 3) (.cons (.var 4) (.cons (.var 5) .nil)))) (.lc [10] (.var 10) (.rng (.cons (.int 3) .nil)) .nil (.call i_law_shuffled [true, false] (.cons (.var 0) (.cons (.bi .len (.cons (.var 2) .nil)) .nil))))) (.cons (.iff (.cmp .eq (.var 1) (.int 1)) (.cons (.ret (.var 2)) .nil) .nil) (.cons (.asg (.var 6) (.lc [11] (.var 11) (.rng (.cons (.bi .len (.cons (.var 2) .nil)) .nil)) .nil (.lc [12] (.var 12) (.rng (.cons (.bi .len (.cons (.var 2) .nil)) .nil)) .nil (.idx (.var 5) (.idx (.idx (.var 2) (.idx (.var 3) (.var 11))) (.idx (.var 4) (.var 12))))))) (.cons (.ret (.var 6)) .nil)))))))
abbrev f_law_square : TW.Fn := ⟨1, 14, false, t_law_square⟩ -- 0:generator 1:way 2:group 3:rows 4:signs 5:names 6:found 7:size 8:weights 9:weight 10:turn 11:state 12:sign 13:low
def t_law_swaps : TW.T := (.cons (.asgm 1 (.lst .nil)) (.cons (.forr (.var 2) (.rng (.cons (.bi .len (.cons (.var 0) .nil)) .nil)) (.cons (.forr (.var 3) (.rng (.cons (.bi .len (.cons (.var 0) .nil)) .nil)) (.cons (.forr (.var 4) (.rng (.cons (.bin .add (.var 3) (.int 1)) (.cons (.bi .len (.cons (.var 0) .nil)) .nil))) (.cons (.iff (.cmp .eq (.idx (.idx (.var 0) (.idx (.idx (.var 0) (.var 2)) (.var 3))) (.var 4)) (.idx (.idx (.var 0) (.idx (.idx (.var 0) (.var 2)) (.var 4))) (.var 3))) (.cons (.ex (.mt .append (.var 1) (.cons (.tup (.cons (.var 2) (.cons (.var 3) (.cons (.var 4) .nil)))) .nil))) .nil) .nil) .nil)) .nil)) .nil)) (.cons (.retm 1) .nil)))
abbrev f_law_swaps : TW.Fn := ⟨1, 5, true, t_law_swaps⟩ -- 0:square 1:found 2:state 3:one 4:other
def t_law_last : TW.T := (.cons (.asg (.var 2) (.idx (.var 0) (.int 1))) (.cons (.forr (.var 3) (.cons (.var 1) .nil) (.cons (.asg (.var 2) (.idx (.idx (.idx (.var 0) (.int 0)) (.var 2)) (.var 3))) .nil)) (.cons (.ret (.var 2)) .nil)))
abbrev f_law_last : TW.Fn := ⟨2, 4, false, t_law_last⟩ -- 0:chain 1:code 2:state 3:sign
def t_law_slips : TW.T := (.cons (.asg (.var 3) (.int 0)) (.cons (.forr (.var 4) (.cons (.call i_law_all_codes [] (.cons (.bi .len (.cons (.idx (.var 0) (.int 0)) .nil)) (.cons (.var 1) .nil))) .nil) (.cons (.par [(5, false), (6, false)] (.cons (.idx (.var 4) (.var 2)) (.cons (.idx (.var 4) (.bin .add (.var 2) (.int 1))) .nil))) (.cons (.iff (.and (.cmp .ne (.var 5) (.var 6)) (.cmp .eq (.call i_law_last [] (.cons (.var 0) (.cons (.var 4) .nil))) (.idx (.var 0) (.int 2)))) (.cons (.asg (.var 3) (.bin .add (.var 3) (.bi .int (.cons (.cmp .eq (.call i_law_last [] (.cons (.var 0) (.cons (.bin .add (.bin .add (.sl (.var 4) .nil (.cons (.var 2) .nil)) (.lst (.cons (.var 6) (.cons (.var 5) .nil)))) (.sl (.var 4) (.cons (.bin .add (.var 2) (.int 2)) .nil) .nil)) .nil))) (.idx (.var 0) (.int 2))) .nil)))) .nil) .nil) .nil))) (.cons (.ret (.var 3)) .nil)))
abbrev f_law_slips : TW.Fn := ⟨3, 7, false, t_law_slips⟩ -- 0:chain 1:length 2:place 3:found 4:code 5:one 6:other
def t_law_reached : TW.T := (.cons (.asg (.var 3) (.lc [6] (.var 6) (.rng (.cons (.bi .len (.cons (.var 0) .nil)) .nil)) .nil (.bi .int (.cons (.cmp .eq (.var 6) (.var 1)) .nil)))) (.cons (.forr (.var 4) (.rng (.cons (.var 2) .nil)) (.cons (.asgm 5 (.bin .mul (.lst (.cons (.int 0) .nil)) (.bi .len (.cons (.var 0) .nil)))) (.cons (.forr (.tup (.cons (.var 6) (.cons (.var 7) .nil))) (.enumr (.var 3)) (.cons (.forr (.var 8) (.cons (.idx (.var 0) (.var 6)) .nil) (.cons (.asgi 5 (.var 8) (.bin .add (.idx (.var 5) (.var 8)) (.var 7))) .nil)) .nil)) (.cons (.asg (.var 3) (.var 5)) .nil)))) (.cons (.ret (.var 3)) .nil)))
abbrev f_law_reached : TW.Fn := ⟨3, 9, false, t_law_reached⟩ -- 0:square 1:start 2:length 3:counts 4:turn 5:later 6:state 7:many 8:last
def t_law_counted : TW.T := (.cons (.asg (.tup (.cons (.var 3) (.cons (.var 4) (.cons (.var 5) .nil)))) (.var 0)) (.cons (.par [(6, false), (7, false)] (.cons (.call i_law_reached [] (.cons (.var 3) (.cons (.var 4) (.cons (.var 2) .nil)))) (.cons (.int 0) .nil))) (.cons (.asg (.var 8) (.lc [9] (.var 9) (.rng (.cons (.bi .len (.cons (.var 3) .nil)) .nil)) .nil (.idx (.call i_law_reached [] (.cons (.var 3) (.cons (.var 9) (.cons (.bin .sub (.bin .sub (.var 1) (.var 2)) (.int 2)) .nil)))) (.var 5)))) (.cons (.forr (.tup (.cons (.var 9) (.cons (.var 10) (.cons (.var 11) .nil)))) (.cons (.call i_law_swaps [] (.cons (.var 3) .nil)) .nil) (.cons (.asg (.var 7) (.bin .add (.var 7) (.bin .mul (.bin .mul (.int 2) (.idx (.var 6) (.var 9))) (.idx (.var 8) (.idx (.idx (.var 3) (.idx (.idx (.var 3) (.var 9)) (.var 10))) (.var 11)))))) .nil)) (.cons (.ret (.var 7)) .nil)))))
abbrev f_law_counted : TW.Fn := ⟨3, 12, false, t_law_counted⟩ -- 0:chain 1:length 2:place 3:square 4:start 5:end 6:ahead 7:found 8:behind 9:state 10:one 11:other
def t_law_uneven : TW.T := (.cons (.asg (.var 1) (.lst (.cons (.lst (.cons (.int 0) (.cons (.int 1) (.cons (.int 2) (.cons (.int 3) (.cons (.int 4) .nil)))))) (.cons (.lst (.cons (.int 1) (.cons (.int 0) (.cons (.int 3) (.cons (.int 4) (.cons (.int 2) .nil)))))) (.cons (.lst (.cons (.int 2) (.cons (.int 4) (.cons (.int 0) (.cons (.int 1) (.cons (.int 3) .nil)))))) (.cons (.lst (.cons (.int 3) (.cons (.int 2) (.cons (.int 4) (.cons (.int 0) (.cons (.int 1) .nil)))))) (.cons (.lst (.cons (.int 4) (.cons (.int 3) (.cons (.int 1) (.cons (.int 2) (.cons (.int 0) .nil)))))) .nil))))))) (.cons (.parr 2 3 4 (.call i_law_shuffled [true, false] (.cons (.var 0) (.cons (.int 5) .nil))) (.call i_law_shuffled [true, false] (.cons (.var 0) (.cons (.int 5) .nil))) [5] (.var 5) (.rng (.cons (.int 5) .nil)) (.bin .mul (.lst (.cons (.int 0) .nil)) (.int 5))) (.cons (.forr (.var 5) (.rng (.cons (.int 5) .nil)) (.cons (.forr (.var 6) (.rng (.cons (.int 5) .nil)) (.cons (.asgii 4 (.idx (.var 2) (.var 5)) (.idx (.var 3) (.var 6)) (.idx (.var 2) (.idx (.idx (.var 1) (.var 5)) (.var 6)))) .nil)) .nil)) (.cons (.retg 4) .nil))))
abbrev f_law_uneven : TW.Fn := ⟨1, 7, false, t_law_uneven⟩ -- 0:generator 1:square 2:states 3:signs 4:found 5:state 6:sign
def t_law_right : TW.T := (.cons (.asg (.var 1) (.call i_law_square [true] (.cons (.var 0) .nil))) (.cons (.iff (.cmp .gt (.bi .len (.cons (.var 1) .nil)) (.int 7)) (.cons (.asg (.var 1) (.lc [9] (.var 9) (.rng (.cons (.int 4) .nil)) .nil (.lc [10] (.var 10) (.rng (.cons (.int 4) .nil)) .nil (.bin .mod (.bi .int (.cons (.bin .add (.bin .mul (.int 3) (.var 9)) (.var 10)) .nil)) (.int 4))))) .nil) .nil) (.cons (.iff (.cmp .eq (.call i_law_random [true, false] (.cons (.var 0) (.cons (.int 3) .nil))) (.int 0)) (.cons (.asg (.var 1) (.call i_law_uneven [true] (.cons (.var 0) .nil))) .nil) .nil) (.cons (.asg (.var 2) (.bi .len (.cons (.var 1) .nil))) (.cons (.asg (.var 3) (.tup (.cons (.var 1) (.cons (.call i_law_random [true, false] (.cons (.var 0) (.cons (.var 2) .nil))) (.cons (.call i_law_random [true, false] (.cons (.var 0) (.cons (.var 2) .nil))) .nil))))) (.cons (.asg (.var 4) (.bi .repr (.cons (.var 3) .nil))) (.cons (.forr (.var 5) (.cons (.lst (.cons (.int 2) (.cons (.int 3) (.cons (.int 4) .nil)))) .nil) (.cons (.forr (.var 6) (.rng (.cons (.bin .sub (.var 5) (.int 1)) .nil)) (.cons (.asg (.var 8) (.call i_law_counted [] (.cons (.var 3) (.cons (.var 5) (.cons (.var 6) .nil))))) (.cons (.iff (.and (.cmp .lt (.call i_law_power [] (.cons (.var 2) (.cons (.var 5) .nil))) (.int 260)) (.cmp .ne (.var 8) (.call i_law_slips [] (.cons (.var 3) (.cons (.var 5) (.cons (.var 6) .nil)))))) (.cons (.ret (.bl false)) .nil) .nil) (.cons (.iff (.or (.cmp .ne (.bi .repr (.cons (.call i_how_many_slip [] (.cons (.var 3) (.cons (.var 5) (.cons (.var 6) .nil)))) .nil)) (.bi .repr (.cons (.var 8) .nil))) (.cmp .ne (.callk i_how_many_slip [2, 1, 0] (.cons (.var 6) (.cons (.var 5) (.cons (.var 3) .nil)))) (.var 8))) (.cons (.ret (.bl false)) .nil) .nil) .nil)))) .nil)) (.cons (.asg (.var 5) (.bin .add (.int 4) (.call i_law_random [true, false] (.cons (.var 0) (.cons (.int 20) .nil))))) (.cons (.forr (.var 6) (.cons (.lst (.cons (.int 0) (.cons (.bin .sub (.var 5) (.int 2)) (.cons (.call i_law_random [true, false] (.cons (.var 0) (.cons (.bin .sub (.var 5) (.int 1)) .nil))) .nil)))) .nil) (.cons (.iff (.cmp .ne (.bi .repr (.cons (.call i_how_many_slip [] (.cons (.var 3) (.cons (.var 5) (.cons (.var 6) .nil)))) .nil)) (.bi .repr (.cons (.call i_law_counted [] (.cons (.var 3) (.cons (.var 5) (.cons (.var 6) .nil)))) .nil))) (.cons (.ret (.bl false)) .nil) .nil) .nil)) (.cons (.asg (.var 7) (.lc [6] (.var 6) (.rng (.cons (.int 1) (.cons (.bin .sub (.var 5) (.int 2)) .nil))) .nil (.call i_how_many_slip [] (.cons (.var 3) (.cons (.var 5) (.cons (.var 6) .nil)))))) (.cons (.iff (.or (.cmp .ne (.bi .lenSet (.cons (.var 7) .nil)) (.int 1)) (.or (.cmp .ne (.idx (.var 7) (.int 0)) (.call i_law_counted [] (.cons (.var 3) (.cons (.var 5) (.cons (.int 1) .nil))))) (.cmp .ne (.idx (.var 7) (.int 0)) (.bin .mul (.bin .mul (.int 2) (.bi .len (.cons (.call i_law_swaps [] (.cons (.var 1) .nil)) .nil))) (.call i_law_power [] (.cons (.var 2) (.cons (.bin .sub (.var 5) (.int 4)) .nil))))))) (.cons (.ret (.bl false)) .nil) .nil) (.cons (.ret (.and (.cmp .eq (.bi .repr (.cons (.var 3) .nil)) (.var 4)) (.cmp .eq (.call i_how_many_right_lists [] (.cons (.var 3) (.cons (.var 5) .nil))) (.call i_law_power [] (.cons (.var 2) (.cons (.bin .sub (.var 5) (.int 1)) .nil)))))) .nil))))))))))))
abbrev f_law_right : TW.Fn := ⟨1, 11, false, t_law_right⟩ -- 0:generator 1:square 2:size 3:chain 4:kept 5:length 6:place 7:inner 8:due 9:state 10:sign
def t_law_power : TW.T := (.cons (.asg (.var 2) (.int 1)) (.cons (.forr (.var 3) (.rng (.cons (.var 1) .nil)) (.cons (.asg (.var 2) (.bin .mul (.var 2) (.var 0))) .nil)) (.cons (.ret (.var 2)) .nil)))
abbrev f_law_power : TW.Fn := ⟨2, 4, false, t_law_power⟩ -- 0:base 1:many 2:found 3:turn
def t_law : TW.T := (.cons (.forr (.var 1) (.rng (.cons (.int 3) .nil)) (.cons (.iff (.not (.call i_law_right [true] (.cons (.thaw (.call i_law_generator [] (.cons (.var 0) (.cons (.var 1) .nil)))) .nil))) (.cons (.ret (.bl false)) .nil) .nil) .nil)) (.cons (.asg (.var 2) (.tup (.cons (.lst (.cons (.lst (.cons (.int 0) (.cons (.int 1) .nil))) (.cons (.lst (.cons (.int 1) (.cons (.int 0) .nil))) .nil))) (.cons (.int 0) (.cons (.int 1) .nil))))) (.cons (.asg (.var 3) (.tup (.cons (.lst (.cons (.lst (.cons (.int 0) (.cons (.int 1) (.cons (.int 2) (.cons (.int 3) (.cons (.int 4) .nil)))))) (.cons (.lst (.cons (.int 1) (.cons (.int 0) (.cons (.int 3) (.cons (.int 4) (.cons (.int 2) .nil)))))) (.cons (.lst (.cons (.int 2) (.cons (.int 4) (.cons (.int 0) (.cons (.int 1) (.cons (.int 3) .nil)))))) (.cons (.lst (.cons (.int 3) (.cons (.int 2) (.cons (.int 4) (.cons (.int 0) (.cons (.int 1) .nil)))))) (.cons (.lst (.cons (.int 4) (.cons (.int 3) (.cons (.int 1) (.cons (.int 2) (.cons (.int 0) .nil)))))) .nil)))))) (.cons (.int 0) (.cons (.int 0) .nil))))) (.cons (.iff (.cmp .ne (.bi .repr (.cons (.lst (.cons (.call i_how_many_slip [] (.cons (.var 3) (.cons (.int 5) (.cons (.int 0) .nil)))) (.cons (.call i_how_many_slip [] (.cons (.var 3) (.cons (.int 5) (.cons (.int 1) .nil)))) .nil))) .nil)) (.bi .repr (.cons (.lst (.cons (.int 200) (.cons (.int 320) .nil))) .nil))) (.cons (.ret (.bl false)) .nil) .nil) (.cons (.ret (.cmp .eq (.lst (.cons (.call i_how_many_slip [] (.cons (.var 2) (.cons (.int 2) (.cons (.int 0) .nil)))) (.cons (.call i_how_many_slip [] (.cons (.var 2) (.cons (.int 3) (.cons (.int 0) .nil)))) (.cons (.call i_how_many_slip [] (.cons (.var 2) (.cons (.int 3) (.cons (.int 1) .nil)))) (.cons (.call i_how_many_slip [] (.cons (.var 2) (.cons (.int 60) (.cons (.int 30) .nil)))) .nil))))) (.lst (.cons (.int 2) (.cons (.int 2) (.cons (.int 2) (.cons (.bin .shl (.int 1) (.int 58)) .nil))))))) .nil)))))
abbrev f_law : TW.Fn := ⟨1, 4, false, t_law⟩ -- 0:script 1:index 2:two 3:five
def tbL : List TW.Fn := [f_is_whole, f_is_between, f_check_number, f_times_over, f_row_of_fits, f_all_once, f_square_fits, f_swaps_in_square, f_chain_fits, f_check_chain, f_ways_to, f_how_many_slip, f_how_many_right_lists, f_law_cell, f_law_hash, f_law_generator, f_law_random, f_law_abelian, f_law_dihedral, f_law_group, f_law_shuffled, f_law_all_codes, f_law_square, f_law_swaps, f_law_last, f_law_slips, f_law_reached, f_law_counted, f_law_uneven, f_law_right, f_law_power, f_law]
def tb : TW.Tb := fun f => tbL[f]?
end K50
end
section
set_option Elab.async false
set_option linter.all false
set_option maxRecDepth 100000
set_option maxHeartbeats 4000000
namespace K50
open PySem TW
variable {W : Nat}
theorem cl_whole (k : Nat) (x : Int) (S : Sto) : callD (evC tb W (k + 1)) i_is_whole [.int x] S = some (.bool true, S) :=
  callD_plain rfl (by rw [evC_run (fn := f_is_whole) rfl rfl]; simp -implicitDefEqProofs only [bnd_some, bnd_none, mpd_some, mpd_none, cnd_true, cnd_false, e_var, vl_int, vl_bool, vl_none, vl_str, vl_list, vl_tuple, vl_edict, vl_cel, vl_scr, e_int, e_str, e_bl, e_non, e_edict, e_bin, e_neg, e_cmp, e_chain, e_and, e_or, e_not, e_ite, e_tup, e_lst, e_call, e_callk, e_bi, e_mt, e_idx, e_sl, e_slr, e_lc, e_thaw, e_lrng, l_nil, l_cons, o_nil, o_cons, t_nil, t_cons, i_rng, i_cons, s_asg, s_asgm, s_asgi, s_par, s_ex, s_ret, s_retm, s_retn, s_iff, s_forr, s_whl, s_pas, s_brk, s_cnt, b_nil, b_cons, th_nx, th_rt, th_bk, th_ct, List.getElem?_cons_zero, List.getElem?_cons_succ, List.map_cons, List.map_nil, List.cons_append, List.nil_append, List.replicate_succ, List.replicate_zero, if_true, if_false, Bool.false_eq_true, Bool.not_true, Bool.not_false, peek_int, peek_bool, peek_none, peek_str, peek_list, peek_tuple, peek_edict, peek_cel, settle_int, settle_bool, settle_none, settle_str, settle_list, settle_tuple, settle_edict, isTrueD_bool, biD, one, two, kindB, tyD, lenD, intOfD, iiD, sumD, listD, tupleD, binD, addD_int, subD, mulD_int, intD, cmpD, cmpI, isD, isNon, eqD_int, eqD_str, outD_rt, outD_rtt, outD_nx, bindT, List.set_cons_zero, List.set_cons_succ, wipeE, frE, celOf_int, celOf_bool, celOf_none, celOf_str, celOf_list, celOf_tuple, celOf_edict, celOf_cel, Option.isNone_none, Option.isNone_some, Bool.and_true, Bool.true_and, Bool.and_false, Bool.false_and, Bool.or_true, Bool.true_or, Bool.or_false, Bool.false_or, beginD_list, beginD_tuple, unlock_none, unlockO, idxD_list, idxD_tuple, setsE, decide_true, decide_false, List.take_nil, List.length_nil, List.length_cons, mtD, List.set_nil, List.getElem?_nil, Nat.zero_add, decide_eq_true_eq, sb_nil, sb_t, sb_f, sb_e, sa_nil, sa_cons, Nat.reduceSub, Nat.reduceLT, Nat.reduceAdd, Nat.reduceMul, Nat.reduceLeDiff, cnd_and, cnd_or, Option.bind_some, Option.map_some, Option.bind_none, Option.map_none, List.length_map, reduceCtorEq, beq_self_eq_true, eqD_nil, line, Nat.zero_le, ixD_0, ixD_1, ixD_2, ixD_last, Int.reduceEq, Int.reduceLT, Int.reduceLE, Int.reduceNeg, Int.reduceAdd, Int.reduceSub, Int.reduceMul, Nat.reduceEqDiff, Int.cast_ofNat_Int, List.getD_cons_zero, List.getD_cons_succ, t_is_whole]; rfl)
/-- what is no whole number -/
def oddB : PyData → Bool
  | .none | .bool _ | .str _ => true
  | _ => false
theorem cl_whole_no (k : Nat) {d : PyData} (h : oddB d = true) (S : Sto) : callD (evC tb W (k + 1)) i_is_whole [d] S = some (.bool false, S) := by
  cases d <;> first | (cases h; done) | (exact callD_plain rfl (by rw [evC_run (fn := f_is_whole) rfl rfl]; simp -implicitDefEqProofs only [bnd_some, bnd_none, mpd_some, mpd_none, cnd_true, cnd_false, e_var, vl_int, vl_bool, vl_none, vl_str, vl_list, vl_tuple, vl_edict, vl_cel, vl_scr, e_int, e_str, e_bl, e_non, e_edict, e_bin, e_neg, e_cmp, e_chain, e_and, e_or, e_not, e_ite, e_tup, e_lst, e_call, e_callk, e_bi, e_mt, e_idx, e_sl, e_slr, e_lc, e_thaw, e_lrng, l_nil, l_cons, o_nil, o_cons, t_nil, t_cons, i_rng, i_cons, s_asg, s_asgm, s_asgi, s_par, s_ex, s_ret, s_retm, s_retn, s_iff, s_forr, s_whl, s_pas, s_brk, s_cnt, b_nil, b_cons, th_nx, th_rt, th_bk, th_ct, List.getElem?_cons_zero, List.getElem?_cons_succ, List.map_cons, List.map_nil, List.cons_append, List.nil_append, List.replicate_succ, List.replicate_zero, if_true, if_false, Bool.false_eq_true, Bool.not_true, Bool.not_false, peek_int, peek_bool, peek_none, peek_str, peek_list, peek_tuple, peek_edict, peek_cel, settle_int, settle_bool, settle_none, settle_str, settle_list, settle_tuple, settle_edict, isTrueD_bool, biD, one, two, kindB, tyD, lenD, intOfD, iiD, sumD, listD, tupleD, binD, addD_int, subD, mulD_int, intD, cmpD, cmpI, isD, isNon, eqD_int, eqD_str, outD_rt, outD_rtt, outD_nx, bindT, List.set_cons_zero, List.set_cons_succ, wipeE, frE, celOf_int, celOf_bool, celOf_none, celOf_str, celOf_list, celOf_tuple, celOf_edict, celOf_cel, Option.isNone_none, Option.isNone_some, Bool.and_true, Bool.true_and, Bool.and_false, Bool.false_and, Bool.or_true, Bool.true_or, Bool.or_false, Bool.false_or, beginD_list, beginD_tuple, unlock_none, unlockO, idxD_list, idxD_tuple, setsE, decide_true, decide_false, List.take_nil, List.length_nil, List.length_cons, mtD, List.set_nil, List.getElem?_nil, Nat.zero_add, decide_eq_true_eq, sb_nil, sb_t, sb_f, sb_e, sa_nil, sa_cons, Nat.reduceSub, Nat.reduceLT, Nat.reduceAdd, Nat.reduceMul, Nat.reduceLeDiff, cnd_and, cnd_or, Option.bind_some, Option.map_some, Option.bind_none, Option.map_none, List.length_map, reduceCtorEq, beq_self_eq_true, eqD_nil, line, Nat.zero_le, ixD_0, ixD_1, ixD_2, ixD_last, Int.reduceEq, Int.reduceLT, Int.reduceLE, Int.reduceNeg, Int.reduceAdd, Int.reduceSub, Int.reduceMul, Nat.reduceEqDiff, Int.cast_ofNat_Int, List.getD_cons_zero, List.getD_cons_succ, t_is_whole]; try rfl))
theorem cl_between (k : Nat) (x lo hi : Int) (S : Sto) : callD (evC tb W (k + 2)) i_is_between [.int x, .int lo, .int hi] S = some (.bool (decide (lo ≤ x) && decide (x ≤ hi)), S) :=
  callD_plain rfl (by rw [evC_run (fn := f_is_between) rfl rfl]; simp -implicitDefEqProofs only [bnd_some, bnd_none, mpd_some, mpd_none, cnd_true, cnd_false, e_var, vl_int, vl_bool, vl_none, vl_str, vl_list, vl_tuple, vl_edict, vl_cel, vl_scr, e_int, e_str, e_bl, e_non, e_edict, e_bin, e_neg, e_cmp, e_chain, e_and, e_or, e_not, e_ite, e_tup, e_lst, e_call, e_callk, e_bi, e_mt, e_idx, e_sl, e_slr, e_lc, e_thaw, e_lrng, l_nil, l_cons, o_nil, o_cons, t_nil, t_cons, i_rng, i_cons, s_asg, s_asgm, s_asgi, s_par, s_ex, s_ret, s_retm, s_retn, s_iff, s_forr, s_whl, s_pas, s_brk, s_cnt, b_nil, b_cons, th_nx, th_rt, th_bk, th_ct, List.getElem?_cons_zero, List.getElem?_cons_succ, List.map_cons, List.map_nil, List.cons_append, List.nil_append, List.replicate_succ, List.replicate_zero, if_true, if_false, Bool.false_eq_true, Bool.not_true, Bool.not_false, peek_int, peek_bool, peek_none, peek_str, peek_list, peek_tuple, peek_edict, peek_cel, settle_int, settle_bool, settle_none, settle_str, settle_list, settle_tuple, settle_edict, isTrueD_bool, biD, one, two, kindB, tyD, lenD, intOfD, iiD, sumD, listD, tupleD, binD, addD_int, subD, mulD_int, intD, cmpD, cmpI, isD, isNon, eqD_int, eqD_str, outD_rt, outD_rtt, outD_nx, bindT, List.set_cons_zero, List.set_cons_succ, wipeE, frE, celOf_int, celOf_bool, celOf_none, celOf_str, celOf_list, celOf_tuple, celOf_edict, celOf_cel, Option.isNone_none, Option.isNone_some, Bool.and_true, Bool.true_and, Bool.and_false, Bool.false_and, Bool.or_true, Bool.true_or, Bool.or_false, Bool.false_or, beginD_list, beginD_tuple, unlock_none, unlockO, idxD_list, idxD_tuple, setsE, decide_true, decide_false, List.take_nil, List.length_nil, List.length_cons, mtD, List.set_nil, List.getElem?_nil, Nat.zero_add, decide_eq_true_eq, sb_nil, sb_t, sb_f, sb_e, sa_nil, sa_cons, Nat.reduceSub, Nat.reduceLT, Nat.reduceAdd, Nat.reduceMul, Nat.reduceLeDiff, cnd_and, cnd_or, Option.bind_some, Option.map_some, Option.bind_none, Option.map_none, List.length_map, reduceCtorEq, beq_self_eq_true, eqD_nil, line, Nat.zero_le, ixD_0, ixD_1, ixD_2, ixD_last, Int.reduceEq, Int.reduceLT, Int.reduceLE, Int.reduceNeg, Int.reduceAdd, Int.reduceSub, Int.reduceMul, Nat.reduceEqDiff, Int.cast_ofNat_Int, List.getD_cons_zero, List.getD_cons_succ, t_is_between, cl_whole])
theorem cl_between_up (k : Nat) (x lo : Int) (S : Sto) : callD (evC tb W (k + 2)) i_is_between [.int x, .int lo, .none] S = some (.bool (decide (lo ≤ x)), S) :=
  callD_plain rfl (by rw [evC_run (fn := f_is_between) rfl rfl]; simp -implicitDefEqProofs only [bnd_some, bnd_none, mpd_some, mpd_none, cnd_true, cnd_false, e_var, vl_int, vl_bool, vl_none, vl_str, vl_list, vl_tuple, vl_edict, vl_cel, vl_scr, e_int, e_str, e_bl, e_non, e_edict, e_bin, e_neg, e_cmp, e_chain, e_and, e_or, e_not, e_ite, e_tup, e_lst, e_call, e_callk, e_bi, e_mt, e_idx, e_sl, e_slr, e_lc, e_thaw, e_lrng, l_nil, l_cons, o_nil, o_cons, t_nil, t_cons, i_rng, i_cons, s_asg, s_asgm, s_asgi, s_par, s_ex, s_ret, s_retm, s_retn, s_iff, s_forr, s_whl, s_pas, s_brk, s_cnt, b_nil, b_cons, th_nx, th_rt, th_bk, th_ct, List.getElem?_cons_zero, List.getElem?_cons_succ, List.map_cons, List.map_nil, List.cons_append, List.nil_append, List.replicate_succ, List.replicate_zero, if_true, if_false, Bool.false_eq_true, Bool.not_true, Bool.not_false, peek_int, peek_bool, peek_none, peek_str, peek_list, peek_tuple, peek_edict, peek_cel, settle_int, settle_bool, settle_none, settle_str, settle_list, settle_tuple, settle_edict, isTrueD_bool, biD, one, two, kindB, tyD, lenD, intOfD, iiD, sumD, listD, tupleD, binD, addD_int, subD, mulD_int, intD, cmpD, cmpI, isD, isNon, eqD_int, eqD_str, outD_rt, outD_rtt, outD_nx, bindT, List.set_cons_zero, List.set_cons_succ, wipeE, frE, celOf_int, celOf_bool, celOf_none, celOf_str, celOf_list, celOf_tuple, celOf_edict, celOf_cel, Option.isNone_none, Option.isNone_some, Bool.and_true, Bool.true_and, Bool.and_false, Bool.false_and, Bool.or_true, Bool.true_or, Bool.or_false, Bool.false_or, beginD_list, beginD_tuple, unlock_none, unlockO, idxD_list, idxD_tuple, setsE, decide_true, decide_false, List.take_nil, List.length_nil, List.length_cons, mtD, List.set_nil, List.getElem?_nil, Nat.zero_add, decide_eq_true_eq, sb_nil, sb_t, sb_f, sb_e, sa_nil, sa_cons, Nat.reduceSub, Nat.reduceLT, Nat.reduceAdd, Nat.reduceMul, Nat.reduceLeDiff, cnd_and, cnd_or, Option.bind_some, Option.map_some, Option.bind_none, Option.map_none, List.length_map, reduceCtorEq, beq_self_eq_true, eqD_nil, line, Nat.zero_le, ixD_0, ixD_1, ixD_2, ixD_last, Int.reduceEq, Int.reduceLT, Int.reduceLE, Int.reduceNeg, Int.reduceAdd, Int.reduceSub, Int.reduceMul, Nat.reduceEqDiff, Int.cast_ofNat_Int, List.getD_cons_zero, List.getD_cons_succ, t_is_between, cl_whole])
theorem cl_between_no (k : Nat) {d : PyData} (h : oddB d = true) (lo hi : Int) (S : Sto) : callD (evC tb W (k + 2)) i_is_between [d, .int lo, .int hi] S = some (.bool false, S) := by
  cases d <;> first | (cases h; done) | (exact callD_plain rfl (by rw [evC_run (fn := f_is_between) rfl rfl]; simp -implicitDefEqProofs only [bnd_some, bnd_none, mpd_some, mpd_none, cnd_true, cnd_false, e_var, vl_int, vl_bool, vl_none, vl_str, vl_list, vl_tuple, vl_edict, vl_cel, vl_scr, e_int, e_str, e_bl, e_non, e_edict, e_bin, e_neg, e_cmp, e_chain, e_and, e_or, e_not, e_ite, e_tup, e_lst, e_call, e_callk, e_bi, e_mt, e_idx, e_sl, e_slr, e_lc, e_thaw, e_lrng, l_nil, l_cons, o_nil, o_cons, t_nil, t_cons, i_rng, i_cons, s_asg, s_asgm, s_asgi, s_par, s_ex, s_ret, s_retm, s_retn, s_iff, s_forr, s_whl, s_pas, s_brk, s_cnt, b_nil, b_cons, th_nx, th_rt, th_bk, th_ct, List.getElem?_cons_zero, List.getElem?_cons_succ, List.map_cons, List.map_nil, List.cons_append, List.nil_append, List.replicate_succ, List.replicate_zero, if_true, if_false, Bool.false_eq_true, Bool.not_true, Bool.not_false, peek_int, peek_bool, peek_none, peek_str, peek_list, peek_tuple, peek_edict, peek_cel, settle_int, settle_bool, settle_none, settle_str, settle_list, settle_tuple, settle_edict, isTrueD_bool, biD, one, two, kindB, tyD, lenD, intOfD, iiD, sumD, listD, tupleD, binD, addD_int, subD, mulD_int, intD, cmpD, cmpI, isD, isNon, eqD_int, eqD_str, outD_rt, outD_rtt, outD_nx, bindT, List.set_cons_zero, List.set_cons_succ, wipeE, frE, celOf_int, celOf_bool, celOf_none, celOf_str, celOf_list, celOf_tuple, celOf_edict, celOf_cel, Option.isNone_none, Option.isNone_some, Bool.and_true, Bool.true_and, Bool.and_false, Bool.false_and, Bool.or_true, Bool.true_or, Bool.or_false, Bool.false_or, beginD_list, beginD_tuple, unlock_none, unlockO, idxD_list, idxD_tuple, setsE, decide_true, decide_false, List.take_nil, List.length_nil, List.length_cons, mtD, List.set_nil, List.getElem?_nil, Nat.zero_add, decide_eq_true_eq, sb_nil, sb_t, sb_f, sb_e, sa_nil, sa_cons, Nat.reduceSub, Nat.reduceLT, Nat.reduceAdd, Nat.reduceMul, Nat.reduceLeDiff, cnd_and, cnd_or, Option.bind_some, Option.map_some, Option.bind_none, Option.map_none, List.length_map, reduceCtorEq, beq_self_eq_true, eqD_nil, line, Nat.zero_le, ixD_0, ixD_1, ixD_2, ixD_last, Int.reduceEq, Int.reduceLT, Int.reduceLE, Int.reduceNeg, Int.reduceAdd, Int.reduceSub, Int.reduceMul, Nat.reduceEqDiff, Int.cast_ofNat_Int, List.getD_cons_zero, List.getD_cons_succ, t_is_between, cl_whole_no k h]))
theorem cl_check_number (k : Nat) (x lo hi : Int) (h1 : lo ≤ x) (h2 : x ≤ hi) (S : Sto) : callD (evC tb W (k + 3)) i_check_number [.int x, .int lo, .int hi] S = some (.none, S) :=
  callD_plain rfl (by
    rw [evC_run (fn := f_check_number) rfl rfl]
    simp -implicitDefEqProofs only [bnd_some, bnd_none, mpd_some, mpd_none, cnd_true, cnd_false, e_var, vl_int, vl_bool, vl_none, vl_str, vl_list, vl_tuple, vl_edict, vl_cel, vl_scr, e_int, e_str, e_bl, e_non, e_edict, e_bin, e_neg, e_cmp, e_chain, e_and, e_or, e_not, e_ite, e_tup, e_lst, e_call, e_callk, e_bi, e_mt, e_idx, e_sl, e_slr, e_lc, e_thaw, e_lrng, l_nil, l_cons, o_nil, o_cons, t_nil, t_cons, i_rng, i_cons, s_asg, s_asgm, s_asgi, s_par, s_ex, s_ret, s_retm, s_retn, s_iff, s_forr, s_whl, s_pas, s_brk, s_cnt, b_nil, b_cons, th_nx, th_rt, th_bk, th_ct, List.getElem?_cons_zero, List.getElem?_cons_succ, List.map_cons, List.map_nil, List.cons_append, List.nil_append, List.replicate_succ, List.replicate_zero, if_true, if_false, Bool.false_eq_true, Bool.not_true, Bool.not_false, peek_int, peek_bool, peek_none, peek_str, peek_list, peek_tuple, peek_edict, peek_cel, settle_int, settle_bool, settle_none, settle_str, settle_list, settle_tuple, settle_edict, isTrueD_bool, biD, one, two, kindB, tyD, lenD, intOfD, iiD, sumD, listD, tupleD, binD, addD_int, subD, mulD_int, intD, cmpD, cmpI, isD, isNon, eqD_int, eqD_str, outD_rt, outD_rtt, outD_nx, bindT, List.set_cons_zero, List.set_cons_succ, wipeE, frE, celOf_int, celOf_bool, celOf_none, celOf_str, celOf_list, celOf_tuple, celOf_edict, celOf_cel, Option.isNone_none, Option.isNone_some, Bool.and_true, Bool.true_and, Bool.and_false, Bool.false_and, Bool.or_true, Bool.true_or, Bool.or_false, Bool.false_or, beginD_list, beginD_tuple, unlock_none, unlockO, idxD_list, idxD_tuple, setsE, decide_true, decide_false, List.take_nil, List.length_nil, List.length_cons, mtD, List.set_nil, List.getElem?_nil, Nat.zero_add, decide_eq_true_eq, sb_nil, sb_t, sb_f, sb_e, sa_nil, sa_cons, Nat.reduceSub, Nat.reduceLT, Nat.reduceAdd, Nat.reduceMul, Nat.reduceLeDiff, cnd_and, cnd_or, Option.bind_some, Option.map_some, Option.bind_none, Option.map_none, List.length_map, reduceCtorEq, beq_self_eq_true, eqD_nil, line, Nat.zero_le, ixD_0, ixD_1, ixD_2, ixD_last, Int.reduceEq, Int.reduceLT, Int.reduceLE, Int.reduceNeg, Int.reduceAdd, Int.reduceSub, Int.reduceMul, Nat.reduceEqDiff, Int.cast_ofNat_Int, List.getD_cons_zero, List.getD_cons_succ, t_check_number, cl_between, decide_eq_true h1, decide_eq_true h2])
theorem cl_check_number_up (k : Nat) (x lo : Int) (h1 : lo ≤ x) (S : Sto) : callD (evC tb W (k + 3)) i_check_number [.int x, .int lo, .none] S = some (.none, S) :=
  callD_plain rfl (by
    rw [evC_run (fn := f_check_number) rfl rfl]
    simp -implicitDefEqProofs only [bnd_some, bnd_none, mpd_some, mpd_none, cnd_true, cnd_false, e_var, vl_int, vl_bool, vl_none, vl_str, vl_list, vl_tuple, vl_edict, vl_cel, vl_scr, e_int, e_str, e_bl, e_non, e_edict, e_bin, e_neg, e_cmp, e_chain, e_and, e_or, e_not, e_ite, e_tup, e_lst, e_call, e_callk, e_bi, e_mt, e_idx, e_sl, e_slr, e_lc, e_thaw, e_lrng, l_nil, l_cons, o_nil, o_cons, t_nil, t_cons, i_rng, i_cons, s_asg, s_asgm, s_asgi, s_par, s_ex, s_ret, s_retm, s_retn, s_iff, s_forr, s_whl, s_pas, s_brk, s_cnt, b_nil, b_cons, th_nx, th_rt, th_bk, th_ct, List.getElem?_cons_zero, List.getElem?_cons_succ, List.map_cons, List.map_nil, List.cons_append, List.nil_append, List.replicate_succ, List.replicate_zero, if_true, if_false, Bool.false_eq_true, Bool.not_true, Bool.not_false, peek_int, peek_bool, peek_none, peek_str, peek_list, peek_tuple, peek_edict, peek_cel, settle_int, settle_bool, settle_none, settle_str, settle_list, settle_tuple, settle_edict, isTrueD_bool, biD, one, two, kindB, tyD, lenD, intOfD, iiD, sumD, listD, tupleD, binD, addD_int, subD, mulD_int, intD, cmpD, cmpI, isD, isNon, eqD_int, eqD_str, outD_rt, outD_rtt, outD_nx, bindT, List.set_cons_zero, List.set_cons_succ, wipeE, frE, celOf_int, celOf_bool, celOf_none, celOf_str, celOf_list, celOf_tuple, celOf_edict, celOf_cel, Option.isNone_none, Option.isNone_some, Bool.and_true, Bool.true_and, Bool.and_false, Bool.false_and, Bool.or_true, Bool.true_or, Bool.or_false, Bool.false_or, beginD_list, beginD_tuple, unlock_none, unlockO, idxD_list, idxD_tuple, setsE, decide_true, decide_false, List.take_nil, List.length_nil, List.length_cons, mtD, List.set_nil, List.getElem?_nil, Nat.zero_add, decide_eq_true_eq, sb_nil, sb_t, sb_f, sb_e, sa_nil, sa_cons, Nat.reduceSub, Nat.reduceLT, Nat.reduceAdd, Nat.reduceMul, Nat.reduceLeDiff, cnd_and, cnd_or, Option.bind_some, Option.map_some, Option.bind_none, Option.map_none, List.length_map, reduceCtorEq, beq_self_eq_true, eqD_nil, line, Nat.zero_le, ixD_0, ixD_1, ixD_2, ixD_last, Int.reduceEq, Int.reduceLT, Int.reduceLE, Int.reduceNeg, Int.reduceAdd, Int.reduceSub, Int.reduceMul, Nat.reduceEqDiff, Int.cast_ofNat_Int, List.getD_cons_zero, List.getD_cons_succ, t_check_number, cl_between_up, decide_eq_true h1])
def inB (n : Nat) (x : Int) : Bool := decide (0 ≤ x) && decide (x ≤ (n : Int) - 1)
def rowB (n : Nat) (ns : List Int) : Bool := decide (ns.length = n) && ns.all (inB n)
theorem cl_row (k n : Nat) (ns : List Int) (hn : ns.length ≤ 1000) (S : Sto) : callD (evC tb W (k + 3)) i_row_of_fits [.int n, iL ns] S = some (.bool (rowB n ns), S) :=
  callD_plain rfl (by
    rw [evC_run (fn := f_row_of_fits) rfl rfl]
    have hc : ∀ x : Int, lcOne tb (evC tb W (k + 2)) [some (.int n), some (iL ns), none] [2] (.var 2) (.cons (.not (.call i_is_between [] (.cons (.var 2) (.cons (.int 0) (.cons (.bin .sub (.var 0) (.int 1)) .nil))))) .nil) (.var 2) (.int x) [] = some (if !inB n x then some (.int x) else none, []) := fun x => by
      simp -implicitDefEqProofs only [lcOne, bnd_some, bnd_none, mpd_some, mpd_none, cnd_true, cnd_false, e_var, vl_int, vl_bool, vl_none, vl_str, vl_list, vl_tuple, vl_edict, vl_cel, vl_scr, e_int, e_str, e_bl, e_non, e_edict, e_bin, e_neg, e_cmp, e_chain, e_and, e_or, e_not, e_ite, e_tup, e_lst, e_call, e_callk, e_bi, e_mt, e_idx, e_sl, e_slr, e_lc, e_thaw, e_lrng, l_nil, l_cons, o_nil, o_cons, t_nil, t_cons, i_rng, i_cons, s_asg, s_asgm, s_asgi, s_par, s_ex, s_ret, s_retm, s_retn, s_iff, s_forr, s_whl, s_pas, s_brk, s_cnt, b_nil, b_cons, th_nx, th_rt, th_bk, th_ct, List.getElem?_cons_zero, List.getElem?_cons_succ, List.map_cons, List.map_nil, List.cons_append, List.nil_append, List.replicate_succ, List.replicate_zero, if_true, if_false, Bool.false_eq_true, Bool.not_true, Bool.not_false, peek_int, peek_bool, peek_none, peek_str, peek_list, peek_tuple, peek_edict, peek_cel, settle_int, settle_bool, settle_none, settle_str, settle_list, settle_tuple, settle_edict, isTrueD_bool, biD, one, two, kindB, tyD, lenD, intOfD, iiD, sumD, listD, tupleD, binD, addD_int, subD, mulD_int, intD, cmpD, cmpI, isD, isNon, eqD_int, eqD_str, outD_rt, outD_rtt, outD_nx, bindT, List.set_cons_zero, List.set_cons_succ, wipeE, frE, celOf_int, celOf_bool, celOf_none, celOf_str, celOf_list, celOf_tuple, celOf_edict, celOf_cel, Option.isNone_none, Option.isNone_some, Bool.and_true, Bool.true_and, Bool.and_false, Bool.false_and, Bool.or_true, Bool.true_or, Bool.or_false, Bool.false_or, beginD_list, beginD_tuple, unlock_none, unlockO, idxD_list, idxD_tuple, setsE, decide_true, decide_false, List.take_nil, List.length_nil, List.length_cons, mtD, List.set_nil, List.getElem?_nil, Nat.zero_add, decide_eq_true_eq, sb_nil, sb_t, sb_f, sb_e, sa_nil, sa_cons, Nat.reduceSub, Nat.reduceLT, Nat.reduceAdd, Nat.reduceMul, Nat.reduceLeDiff, cnd_and, cnd_or, Option.bind_some, Option.map_some, Option.bind_none, Option.map_none, List.length_map, reduceCtorEq, beq_self_eq_true, eqD_nil, line, Nat.zero_le, ixD_0, ixD_1, ixD_2, ixD_last, Int.reduceEq, Int.reduceLT, Int.reduceLE, Int.reduceNeg, Int.reduceAdd, Int.reduceSub, Int.reduceMul, Nat.reduceEqDiff, Int.cast_ofNat_Int, List.getD_cons_zero, List.getD_cons_succ, cl_between]
      unfold inB
      cases decide (0 ≤ x) <;> cases decide (x ≤ (n : Int) - 1) <;> rfl
    have hl := lcLoop_map (p := fun x => !inB n x) (g := PyData.int) ns [] (fun x _ => hc x) (by simpa using le_line (by omega))
    have hf : (ns.filter (fun x => !inB n x) = []) ↔ ns.all (inB n) = true := by
      rw [List.filter_eq_nil_iff, List.all_eq_true]
      simp
    by_cases hlen : ns.length = n
    · have e : decide ((ns.length : Int) = n) = true := decide_eq_true (by omega)
      simp -implicitDefEqProofs only [bnd_some, bnd_none, mpd_some, mpd_none, cnd_true, cnd_false, e_var, vl_int, vl_bool, vl_none, vl_str, vl_list, vl_tuple, vl_edict, vl_cel, vl_scr, e_int, e_str, e_bl, e_non, e_edict, e_bin, e_neg, e_cmp, e_chain, e_and, e_or, e_not, e_ite, e_tup, e_lst, e_call, e_callk, e_bi, e_mt, e_idx, e_sl, e_slr, e_lc, e_thaw, e_lrng, l_nil, l_cons, o_nil, o_cons, t_nil, t_cons, i_rng, i_cons, s_asg, s_asgm, s_asgi, s_par, s_ex, s_ret, s_retm, s_retn, s_iff, s_forr, s_whl, s_pas, s_brk, s_cnt, b_nil, b_cons, th_nx, th_rt, th_bk, th_ct, List.getElem?_cons_zero, List.getElem?_cons_succ, List.map_cons, List.map_nil, List.cons_append, List.nil_append, List.replicate_succ, List.replicate_zero, if_true, if_false, Bool.false_eq_true, Bool.not_true, Bool.not_false, peek_int, peek_bool, peek_none, peek_str, peek_list, peek_tuple, peek_edict, peek_cel, settle_int, settle_bool, settle_none, settle_str, settle_list, settle_tuple, settle_edict, isTrueD_bool, biD, one, two, kindB, tyD, lenD, intOfD, iiD, sumD, listD, tupleD, binD, addD_int, subD, mulD_int, intD, cmpD, cmpI, isD, isNon, eqD_int, eqD_str, outD_rt, outD_rtt, outD_nx, bindT, List.set_cons_zero, List.set_cons_succ, wipeE, frE, celOf_int, celOf_bool, celOf_none, celOf_str, celOf_list, celOf_tuple, celOf_edict, celOf_cel, Option.isNone_none, Option.isNone_some, Bool.and_true, Bool.true_and, Bool.and_false, Bool.false_and, Bool.or_true, Bool.true_or, Bool.or_false, Bool.false_or, beginD_list, beginD_tuple, unlock_none, unlockO, idxD_list, idxD_tuple, setsE, decide_true, decide_false, List.take_nil, List.length_nil, List.length_cons, mtD, List.set_nil, List.getElem?_nil, Nat.zero_add, decide_eq_true_eq, sb_nil, sb_t, sb_f, sb_e, sa_nil, sa_cons, Nat.reduceSub, Nat.reduceLT, Nat.reduceAdd, Nat.reduceMul, Nat.reduceLeDiff, cnd_and, cnd_or, Option.bind_some, Option.map_some, Option.bind_none, Option.map_none, List.length_map, reduceCtorEq, beq_self_eq_true, eqD_nil, line, Nat.zero_le, ixD_0, ixD_1, ixD_2, ixD_last, Int.reduceEq, Int.reduceLT, Int.reduceLE, Int.reduceNeg, Int.reduceAdd, Int.reduceSub, Int.reduceMul, Nat.reduceEqDiff, Int.cast_ofNat_Int, List.getD_cons_zero, List.getD_cons_succ, t_row_of_fits, lenD_iL, e, e_lc, hl]
      unfold rowB
      rw [decide_eq_true hlen]
      by_cases h : ns.all (inB n) = true
      · rw [decide_eq_true (hf.mpr h), h]; rfl
      · rw [decide_eq_false (fun q => h (hf.mp q)), Bool.eq_false_iff.mpr h]; rfl
    · have e : decide ((ns.length : Int) = n) = false := decide_eq_false (by omega)
      simp -implicitDefEqProofs only [bnd_some, bnd_none, mpd_some, mpd_none, cnd_true, cnd_false, e_var, vl_int, vl_bool, vl_none, vl_str, vl_list, vl_tuple, vl_edict, vl_cel, vl_scr, e_int, e_str, e_bl, e_non, e_edict, e_bin, e_neg, e_cmp, e_chain, e_and, e_or, e_not, e_ite, e_tup, e_lst, e_call, e_callk, e_bi, e_mt, e_idx, e_sl, e_slr, e_lc, e_thaw, e_lrng, l_nil, l_cons, o_nil, o_cons, t_nil, t_cons, i_rng, i_cons, s_asg, s_asgm, s_asgi, s_par, s_ex, s_ret, s_retm, s_retn, s_iff, s_forr, s_whl, s_pas, s_brk, s_cnt, b_nil, b_cons, th_nx, th_rt, th_bk, th_ct, List.getElem?_cons_zero, List.getElem?_cons_succ, List.map_cons, List.map_nil, List.cons_append, List.nil_append, List.replicate_succ, List.replicate_zero, if_true, if_false, Bool.false_eq_true, Bool.not_true, Bool.not_false, peek_int, peek_bool, peek_none, peek_str, peek_list, peek_tuple, peek_edict, peek_cel, settle_int, settle_bool, settle_none, settle_str, settle_list, settle_tuple, settle_edict, isTrueD_bool, biD, one, two, kindB, tyD, lenD, intOfD, iiD, sumD, listD, tupleD, binD, addD_int, subD, mulD_int, intD, cmpD, cmpI, isD, isNon, eqD_int, eqD_str, outD_rt, outD_rtt, outD_nx, bindT, List.set_cons_zero, List.set_cons_succ, wipeE, frE, celOf_int, celOf_bool, celOf_none, celOf_str, celOf_list, celOf_tuple, celOf_edict, celOf_cel, Option.isNone_none, Option.isNone_some, Bool.and_true, Bool.true_and, Bool.and_false, Bool.false_and, Bool.or_true, Bool.true_or, Bool.or_false, Bool.false_or, beginD_list, beginD_tuple, unlock_none, unlockO, idxD_list, idxD_tuple, setsE, decide_true, decide_false, List.take_nil, List.length_nil, List.length_cons, mtD, List.set_nil, List.getElem?_nil, Nat.zero_add, decide_eq_true_eq, sb_nil, sb_t, sb_f, sb_e, sa_nil, sa_cons, Nat.reduceSub, Nat.reduceLT, Nat.reduceAdd, Nat.reduceMul, Nat.reduceLeDiff, cnd_and, cnd_or, Option.bind_some, Option.map_some, Option.bind_none, Option.map_none, List.length_map, reduceCtorEq, beq_self_eq_true, eqD_nil, line, Nat.zero_le, ixD_0, ixD_1, ixD_2, ixD_last, Int.reduceEq, Int.reduceLT, Int.reduceLE, Int.reduceNeg, Int.reduceAdd, Int.reduceSub, Int.reduceMul, Nat.reduceEqDiff, Int.cast_ofNat_Int, List.getD_cons_zero, List.getD_cons_succ, t_row_of_fits, lenD_iL, e]
      unfold rowB
      rw [decide_eq_false hlen]; rfl)
def onceB (n : Nat) (ns : List Int) : Bool := rowB n ns && decide (metD ns = n)
theorem cl_once (k n : Nat) (ns : List Int) (hn : ns.length ≤ 1000) (S : Sto) : callD (evC tb W (k + 4)) i_all_once [.int n, iL ns] S = some (.bool (onceB n ns), S) :=
  callD_plain rfl (by
    rw [evC_run (fn := f_all_once) rfl rfl]
    have e : decide ((metD ns : Int) = n) = decide (metD ns = n) := by by_cases h : metD ns = n <;> simp [h]; omega
    unfold onceB
    cases h : rowB n ns <;> simp -implicitDefEqProofs only [bnd_some, bnd_none, mpd_some, mpd_none, cnd_true, cnd_false, e_var, vl_int, vl_bool, vl_none, vl_str, vl_list, vl_tuple, vl_edict, vl_cel, vl_scr, e_int, e_str, e_bl, e_non, e_edict, e_bin, e_neg, e_cmp, e_chain, e_and, e_or, e_not, e_ite, e_tup, e_lst, e_call, e_callk, e_bi, e_mt, e_idx, e_sl, e_slr, e_lc, e_thaw, e_lrng, l_nil, l_cons, o_nil, o_cons, t_nil, t_cons, i_rng, i_cons, s_asg, s_asgm, s_asgi, s_par, s_ex, s_ret, s_retm, s_retn, s_iff, s_forr, s_whl, s_pas, s_brk, s_cnt, b_nil, b_cons, th_nx, th_rt, th_bk, th_ct, List.getElem?_cons_zero, List.getElem?_cons_succ, List.map_cons, List.map_nil, List.cons_append, List.nil_append, List.replicate_succ, List.replicate_zero, if_true, if_false, Bool.false_eq_true, Bool.not_true, Bool.not_false, peek_int, peek_bool, peek_none, peek_str, peek_list, peek_tuple, peek_edict, peek_cel, settle_int, settle_bool, settle_none, settle_str, settle_list, settle_tuple, settle_edict, isTrueD_bool, biD, one, two, kindB, tyD, lenD, intOfD, iiD, sumD, listD, tupleD, binD, addD_int, subD, mulD_int, intD, cmpD, cmpI, isD, isNon, eqD_int, eqD_str, outD_rt, outD_rtt, outD_nx, bindT, List.set_cons_zero, List.set_cons_succ, wipeE, frE, celOf_int, celOf_bool, celOf_none, celOf_str, celOf_list, celOf_tuple, celOf_edict, celOf_cel, Option.isNone_none, Option.isNone_some, Bool.and_true, Bool.true_and, Bool.and_false, Bool.false_and, Bool.or_true, Bool.true_or, Bool.or_false, Bool.false_or, beginD_list, beginD_tuple, unlock_none, unlockO, idxD_list, idxD_tuple, setsE, decide_true, decide_false, List.take_nil, List.length_nil, List.length_cons, mtD, List.set_nil, List.getElem?_nil, Nat.zero_add, decide_eq_true_eq, sb_nil, sb_t, sb_f, sb_e, sa_nil, sa_cons, Nat.reduceSub, Nat.reduceLT, Nat.reduceAdd, Nat.reduceMul, Nat.reduceLeDiff, cnd_and, cnd_or, Option.bind_some, Option.map_some, Option.bind_none, Option.map_none, List.length_map, reduceCtorEq, beq_self_eq_true, eqD_nil, line, Nat.zero_le, ixD_0, ixD_1, ixD_2, ixD_last, Int.reduceEq, Int.reduceLT, Int.reduceLE, Int.reduceNeg, Int.reduceAdd, Int.reduceSub, Int.reduceMul, Nat.reduceEqDiff, Int.cast_ofNat_Int, List.getD_cons_zero, List.getD_cons_succ, t_all_once, cl_row k n ns hn, lenSetD_iL (show ns.length ≤ 4000 by omega), e, h])
def gridD (g : List (List Int)) : PyData := .list (g.map fun r => iL r)
def colB (g : List (List Int)) (j : Nat) : List Int := g.map fun r => r.getD j 0
def latB (g : List (List Int)) : Bool := decide (2 ≤ g.length) && g.all (onceB g.length) && (List.range g.length).all fun j => onceB g.length (colB g j)
theorem shaped_rows : ∀ g : List (List Int), PyData.canLayAll0 (g.map fun r => iL r) = true ∧ PyData.depthAll (g.map fun r => iL r) ≤ 1
  | [] => ⟨rfl, Nat.zero_le _⟩
  | r :: g => by
    obtain ⟨h1, h2⟩ := shaped_rows g
    refine ⟨?_, ?_⟩
    · show (PyData.canLayAll0 (r.map .int) && PyData.canLayAll0 (g.map fun r => iL r)) = true
      rw [canLay_ints, h1]; rfl
    · show max (PyData.depthAll (r.map .int) + 1) (PyData.depthAll (g.map fun r => iL r)) ≤ 1
      rw [depth_ints]; omega
theorem eqD_rows_nil (g : List (List Int)) : eqD (.list (g.map fun r => iL r)) (.list []) = some (decide (g = [])) := by
  rw [eqS_nil]
  · cases g <;> rfl
  · obtain ⟨h1, h2⟩ := shaped_rows g
    unfold SeqAt.shaped
    simp only [PyData.canLay0, PyData.depth, h1, Bool.true_and]
    exact decide_eq_true (by omega)
theorem ixD_in {n i : Nat} (h : i < n) : ixD n (i : Int) = some i := by
  unfold ixD
  rw [if_pos (by omega), if_pos (by omega)]
  rfl
theorem filter_none {α : Type} {f : α → Bool} (l : List α) : decide (l.filter (fun r => !f r) = []) = l.all f := by
  have : (l.filter (fun r => !f r) = []) ↔ l.all f = true := by
    rw [List.filter_eq_nil_iff, List.all_eq_true]
    simp
  by_cases h : l.all f = true
  · rw [h, decide_eq_true (this.mpr h)]
  · rw [Bool.eq_false_iff.mpr h, decide_eq_false fun q => h (this.mp q)]
theorem cl_square (k : Nat) (g : List (List Int)) (hg : g.length ≤ 1000) (hr : ∀ r ∈ g, r.length ≤ 1000) (S : Sto) : callD (evC tb W (k + 5)) i_square_fits [gridD g] S = some (.bool (latB g), S) :=
  callD_plain rfl (by
    rw [evC_run (fn := f_square_fits) rfl rfl]
    unfold gridD
    have hlen : ((g.map fun r => iL r).length : Int) = (g.length : Int) := by rw [List.length_map]
    by_cases h2 : 2 ≤ g.length
    · have e2 : decide ((g.length : Int) < 2) = false := decide_eq_false (by omega)
      have h1 : ∀ r ∈ g, lcOne tb (evC tb W (k + 4)) [some (.list (g.map fun r => iL r)), none, none] [1] (.var 1) (.cons (.not (.call i_all_once [] (.cons (.bi .len (.cons (.var 0) .nil)) (.cons (.var 1) .nil)))) .nil) (.var 1) (iL r) [] = some (if !onceB g.length r then some (iL r) else none, []) := fun r hr' => by
        cases h : onceB g.length r <;> simp -implicitDefEqProofs only [lcOne, bnd_some, bnd_none, mpd_some, mpd_none, cnd_true, cnd_false, e_var, vl_int, vl_bool, vl_none, vl_str, vl_list, vl_tuple, vl_edict, vl_cel, vl_scr, e_int, e_str, e_bl, e_non, e_edict, e_bin, e_neg, e_cmp, e_chain, e_and, e_or, e_not, e_ite, e_tup, e_lst, e_call, e_callk, e_bi, e_mt, e_idx, e_sl, e_slr, e_lc, e_thaw, e_lrng, l_nil, l_cons, o_nil, o_cons, t_nil, t_cons, i_rng, i_cons, s_asg, s_asgm, s_asgi, s_par, s_ex, s_ret, s_retm, s_retn, s_iff, s_forr, s_whl, s_pas, s_brk, s_cnt, b_nil, b_cons, th_nx, th_rt, th_bk, th_ct, List.getElem?_cons_zero, List.getElem?_cons_succ, List.map_cons, List.map_nil, List.cons_append, List.nil_append, List.replicate_succ, List.replicate_zero, if_true, if_false, Bool.false_eq_true, Bool.not_true, Bool.not_false, peek_int, peek_bool, peek_none, peek_str, peek_list, peek_tuple, peek_edict, peek_cel, settle_int, settle_bool, settle_none, settle_str, settle_list, settle_tuple, settle_edict, isTrueD_bool, biD, one, two, kindB, tyD, lenD, intOfD, iiD, sumD, listD, tupleD, binD, addD_int, subD, mulD_int, intD, cmpD, cmpI, isD, isNon, eqD_int, eqD_str, outD_rt, outD_rtt, outD_nx, bindT, List.set_cons_zero, List.set_cons_succ, wipeE, frE, celOf_int, celOf_bool, celOf_none, celOf_str, celOf_list, celOf_tuple, celOf_edict, celOf_cel, Option.isNone_none, Option.isNone_some, Bool.and_true, Bool.true_and, Bool.and_false, Bool.false_and, Bool.or_true, Bool.true_or, Bool.or_false, Bool.false_or, beginD_list, beginD_tuple, unlock_none, unlockO, idxD_list, idxD_tuple, setsE, decide_true, decide_false, List.take_nil, List.length_nil, List.length_cons, mtD, List.set_nil, List.getElem?_nil, Nat.zero_add, decide_eq_true_eq, sb_nil, sb_t, sb_f, sb_e, sa_nil, sa_cons, Nat.reduceSub, Nat.reduceLT, Nat.reduceAdd, Nat.reduceMul, Nat.reduceLeDiff, cnd_and, cnd_or, Option.bind_some, Option.map_some, Option.bind_none, Option.map_none, List.length_map, reduceCtorEq, beq_self_eq_true, eqD_nil, line, Nat.zero_le, ixD_0, ixD_1, ixD_2, ixD_last, Int.reduceEq, Int.reduceLT, Int.reduceLE, Int.reduceNeg, Int.reduceAdd, Int.reduceSub, Int.reduceMul, Nat.reduceEqDiff, Int.cast_ofNat_Int, List.getD_cons_zero, List.getD_cons_succ, cl_once k g.length r (hr r hr'), h]
      have l1 := lcLoop_map (p := fun r => !onceB g.length r) (g := fun r => iL r) g [] h1 (by simpa using le_line (by omega))
      have d3 : decide (g.filter (fun r => !onceB g.length r) = []) = g.all (onceB g.length) := filter_none g
      cases h3 : g.all (onceB g.length) with
      | false =>
        rw [h3] at d3
        simp -implicitDefEqProofs only [bnd_some, bnd_none, mpd_some, mpd_none, cnd_true, cnd_false, e_var, vl_int, vl_bool, vl_none, vl_str, vl_list, vl_tuple, vl_edict, vl_cel, vl_scr, e_int, e_str, e_bl, e_non, e_edict, e_bin, e_neg, e_cmp, e_chain, e_and, e_or, e_not, e_ite, e_tup, e_lst, e_call, e_callk, e_bi, e_mt, e_idx, e_sl, e_slr, e_lc, e_thaw, e_lrng, l_nil, l_cons, o_nil, o_cons, t_nil, t_cons, i_rng, i_cons, s_asg, s_asgm, s_asgi, s_par, s_ex, s_ret, s_retm, s_retn, s_iff, s_forr, s_whl, s_pas, s_brk, s_cnt, b_nil, b_cons, th_nx, th_rt, th_bk, th_ct, List.getElem?_cons_zero, List.getElem?_cons_succ, List.map_cons, List.map_nil, List.cons_append, List.nil_append, List.replicate_succ, List.replicate_zero, if_true, if_false, Bool.false_eq_true, Bool.not_true, Bool.not_false, peek_int, peek_bool, peek_none, peek_str, peek_list, peek_tuple, peek_edict, peek_cel, settle_int, settle_bool, settle_none, settle_str, settle_list, settle_tuple, settle_edict, isTrueD_bool, biD, one, two, kindB, tyD, lenD, intOfD, iiD, sumD, listD, tupleD, binD, addD_int, subD, mulD_int, intD, cmpD, cmpI, isD, isNon, eqD_int, eqD_str, outD_rt, outD_rtt, outD_nx, bindT, List.set_cons_zero, List.set_cons_succ, wipeE, frE, celOf_int, celOf_bool, celOf_none, celOf_str, celOf_list, celOf_tuple, celOf_edict, celOf_cel, Option.isNone_none, Option.isNone_some, Bool.and_true, Bool.true_and, Bool.and_false, Bool.false_and, Bool.or_true, Bool.true_or, Bool.or_false, Bool.false_or, beginD_list, beginD_tuple, unlock_none, unlockO, idxD_list, idxD_tuple, setsE, decide_true, decide_false, List.take_nil, List.length_nil, List.length_cons, mtD, List.set_nil, List.getElem?_nil, Nat.zero_add, decide_eq_true_eq, sb_nil, sb_t, sb_f, sb_e, sa_nil, sa_cons, Nat.reduceSub, Nat.reduceLT, Nat.reduceAdd, Nat.reduceMul, Nat.reduceLeDiff, cnd_and, cnd_or, Option.bind_some, Option.map_some, Option.bind_none, Option.map_none, List.length_map, reduceCtorEq, beq_self_eq_true, eqD_nil, line, Nat.zero_le, ixD_0, ixD_1, ixD_2, ixD_last, Int.reduceEq, Int.reduceLT, Int.reduceLE, Int.reduceNeg, Int.reduceAdd, Int.reduceSub, Int.reduceMul, Nat.reduceEqDiff, Int.cast_ofNat_Int, List.getD_cons_zero, List.getD_cons_succ, t_square_fits, e2, e_lc, l1, eqD_rows_nil, d3]
        unfold latB
        rw [h3]; simp
      | true =>
        rw [h3] at d3
        have hrow : ∀ r ∈ g, r.length = g.length := fun r hr' => by
          rw [List.all_eq_true] at h3
          have := h3 r hr'
          unfold onceB rowB at this
          simp only [Bool.and_eq_true, decide_eq_true_eq] at this
          exact this.1.1
        have hcol : ∀ j < g.length, lcLoop (lcOne tb (evC tb W (k + 4)) [some (.list (g.map fun r => iL r)), none, some (.int (j : Nat))] [1] (.var 1) .nil (.idx (.var 1) (.var 2))) (g.map fun r => iL r) [] [] = some ((colB g j).map .int, []) := fun j hj => by
          rw [lcLoop_all (g := fun r => PyData.int (r.getD j 0)) g ?_ (le_line (by omega))]
          · unfold colB; rw [List.map_map]; rfl
          · intro r hr'
            have hj2 : j < r.length := by rw [hrow r hr']; exact hj
            have hget : (r.map PyData.int)[j]? = some (.int (r.getD j 0)) := by
              rw [List.getElem?_map, List.getElem?_eq_getElem hj2, List.getD_eq_getElem?_getD, List.getElem?_eq_getElem hj2]; rfl
            simp -implicitDefEqProofs only [lcOne, bnd_some, bnd_none, mpd_some, mpd_none, cnd_true, cnd_false, e_var, vl_int, vl_bool, vl_none, vl_str, vl_list, vl_tuple, vl_edict, vl_cel, vl_scr, e_int, e_str, e_bl, e_non, e_edict, e_bin, e_neg, e_cmp, e_chain, e_and, e_or, e_not, e_ite, e_tup, e_lst, e_call, e_callk, e_bi, e_mt, e_idx, e_sl, e_slr, e_lc, e_thaw, e_lrng, l_nil, l_cons, o_nil, o_cons, t_nil, t_cons, i_rng, i_cons, s_asg, s_asgm, s_asgi, s_par, s_ex, s_ret, s_retm, s_retn, s_iff, s_forr, s_whl, s_pas, s_brk, s_cnt, b_nil, b_cons, th_nx, th_rt, th_bk, th_ct, List.getElem?_cons_zero, List.getElem?_cons_succ, List.map_cons, List.map_nil, List.cons_append, List.nil_append, List.replicate_succ, List.replicate_zero, if_true, if_false, Bool.false_eq_true, Bool.not_true, Bool.not_false, peek_int, peek_bool, peek_none, peek_str, peek_list, peek_tuple, peek_edict, peek_cel, settle_int, settle_bool, settle_none, settle_str, settle_list, settle_tuple, settle_edict, isTrueD_bool, biD, one, two, kindB, tyD, lenD, intOfD, iiD, sumD, listD, tupleD, binD, addD_int, subD, mulD_int, intD, cmpD, cmpI, isD, isNon, eqD_int, eqD_str, outD_rt, outD_rtt, outD_nx, bindT, List.set_cons_zero, List.set_cons_succ, wipeE, frE, celOf_int, celOf_bool, celOf_none, celOf_str, celOf_list, celOf_tuple, celOf_edict, celOf_cel, Option.isNone_none, Option.isNone_some, Bool.and_true, Bool.true_and, Bool.and_false, Bool.false_and, Bool.or_true, Bool.true_or, Bool.or_false, Bool.false_or, beginD_list, beginD_tuple, unlock_none, unlockO, idxD_list, idxD_tuple, setsE, decide_true, decide_false, List.take_nil, List.length_nil, List.length_cons, mtD, List.set_nil, List.getElem?_nil, Nat.zero_add, decide_eq_true_eq, sb_nil, sb_t, sb_f, sb_e, sa_nil, sa_cons, Nat.reduceSub, Nat.reduceLT, Nat.reduceAdd, Nat.reduceMul, Nat.reduceLeDiff, cnd_and, cnd_or, Option.bind_some, Option.map_some, Option.bind_none, Option.map_none, List.length_map, reduceCtorEq, beq_self_eq_true, eqD_nil, line, Nat.zero_le, ixD_0, ixD_1, ixD_2, ixD_last, Int.reduceEq, Int.reduceLT, Int.reduceLE, Int.reduceNeg, Int.reduceAdd, Int.reduceSub, Int.reduceMul, Nat.reduceEqDiff, Int.cast_ofNat_Int, List.getD_cons_zero, List.getD_cons_succ, ixD_in hj2, hget]
        have h4 : ∀ j ∈ List.range g.length, lcOne tb (evC tb W (k + 4)) [some (.list (g.map fun r => iL r)), none, none] [2] (.var 2) (.cons (.not (.call i_all_once [] (.cons (.bi .len (.cons (.var 0) .nil)) (.cons (.lc [1] (.var 1) (.cons (.var 0) .nil) .nil (.idx (.var 1) (.var 2))) .nil)))) .nil) (.var 2) (.int (j : Nat)) [] = some (if !onceB g.length (colB g j) then some (.int j) else none, []) := fun j hj => by
          have hj := List.mem_range.mp hj
          have hc : (colB g j).length ≤ 1000 := by unfold colB; rw [List.length_map]; exact hg
          cases h : onceB g.length (colB g j) <;> simp -implicitDefEqProofs only [lcOne, bnd_some, bnd_none, mpd_some, mpd_none, cnd_true, cnd_false, e_var, vl_int, vl_bool, vl_none, vl_str, vl_list, vl_tuple, vl_edict, vl_cel, vl_scr, e_int, e_str, e_bl, e_non, e_edict, e_bin, e_neg, e_cmp, e_chain, e_and, e_or, e_not, e_ite, e_tup, e_lst, e_call, e_callk, e_bi, e_mt, e_idx, e_sl, e_slr, e_lc, e_thaw, e_lrng, l_nil, l_cons, o_nil, o_cons, t_nil, t_cons, i_rng, i_cons, s_asg, s_asgm, s_asgi, s_par, s_ex, s_ret, s_retm, s_retn, s_iff, s_forr, s_whl, s_pas, s_brk, s_cnt, b_nil, b_cons, th_nx, th_rt, th_bk, th_ct, List.getElem?_cons_zero, List.getElem?_cons_succ, List.map_cons, List.map_nil, List.cons_append, List.nil_append, List.replicate_succ, List.replicate_zero, if_true, if_false, Bool.false_eq_true, Bool.not_true, Bool.not_false, peek_int, peek_bool, peek_none, peek_str, peek_list, peek_tuple, peek_edict, peek_cel, settle_int, settle_bool, settle_none, settle_str, settle_list, settle_tuple, settle_edict, isTrueD_bool, biD, one, two, kindB, tyD, lenD, intOfD, iiD, sumD, listD, tupleD, binD, addD_int, subD, mulD_int, intD, cmpD, cmpI, isD, isNon, eqD_int, eqD_str, outD_rt, outD_rtt, outD_nx, bindT, List.set_cons_zero, List.set_cons_succ, wipeE, frE, celOf_int, celOf_bool, celOf_none, celOf_str, celOf_list, celOf_tuple, celOf_edict, celOf_cel, Option.isNone_none, Option.isNone_some, Bool.and_true, Bool.true_and, Bool.and_false, Bool.false_and, Bool.or_true, Bool.true_or, Bool.or_false, Bool.false_or, beginD_list, beginD_tuple, unlock_none, unlockO, idxD_list, idxD_tuple, setsE, decide_true, decide_false, List.take_nil, List.length_nil, List.length_cons, mtD, List.set_nil, List.getElem?_nil, Nat.zero_add, decide_eq_true_eq, sb_nil, sb_t, sb_f, sb_e, sa_nil, sa_cons, Nat.reduceSub, Nat.reduceLT, Nat.reduceAdd, Nat.reduceMul, Nat.reduceLeDiff, cnd_and, cnd_or, Option.bind_some, Option.map_some, Option.bind_none, Option.map_none, List.length_map, reduceCtorEq, beq_self_eq_true, eqD_nil, line, Nat.zero_le, ixD_0, ixD_1, ixD_2, ixD_last, Int.reduceEq, Int.reduceLT, Int.reduceLE, Int.reduceNeg, Int.reduceAdd, Int.reduceSub, Int.reduceMul, Nat.reduceEqDiff, Int.cast_ofNat_Int, List.getD_cons_zero, List.getD_cons_succ, e_lc, hcol j hj, cl_once k g.length (colB g j) hc, h]
        have l4 := lcLoop_map (p := fun j => !onceB g.length (colB g j)) (g := fun (j : Nat) => PyData.int j) (List.range g.length) [] h4 (by simpa using le_line (by omega))
        have er : (List.range g.length).map (fun (i : Nat) => PyData.int i) = ((List.range g.length).map fun (i : Nat) => (i : Int)).map PyData.int := by rw [List.map_map]; rfl
        have d4 := filter_none (f := fun j => onceB g.length (colB g j)) (List.range g.length)
        have e5 : ∀ l : List Nat, eqD (.list (l.map fun (j : Nat) => PyData.int j)) (.list []) = some (decide (l = [])) := fun l => by
          have := eqD_nil (l.map fun (j : Nat) => (j : Int))
          rw [List.map_map] at this
          rw [show (l.map fun (j : Nat) => PyData.int j) = l.map (PyData.int ∘ fun (j : Nat) => (j : Int)) from rfl, this]
          cases l <;> simp
        simp -implicitDefEqProofs only [bnd_some, bnd_none, mpd_some, mpd_none, cnd_true, cnd_false, e_var, vl_int, vl_bool, vl_none, vl_str, vl_list, vl_tuple, vl_edict, vl_cel, vl_scr, e_int, e_str, e_bl, e_non, e_edict, e_bin, e_neg, e_cmp, e_chain, e_and, e_or, e_not, e_ite, e_tup, e_lst, e_call, e_callk, e_bi, e_mt, e_idx, e_sl, e_slr, e_lc, e_thaw, e_lrng, l_nil, l_cons, o_nil, o_cons, t_nil, t_cons, i_rng, i_cons, s_asg, s_asgm, s_asgi, s_par, s_ex, s_ret, s_retm, s_retn, s_iff, s_forr, s_whl, s_pas, s_brk, s_cnt, b_nil, b_cons, th_nx, th_rt, th_bk, th_ct, List.getElem?_cons_zero, List.getElem?_cons_succ, List.map_cons, List.map_nil, List.cons_append, List.nil_append, List.replicate_succ, List.replicate_zero, if_true, if_false, Bool.false_eq_true, Bool.not_true, Bool.not_false, peek_int, peek_bool, peek_none, peek_str, peek_list, peek_tuple, peek_edict, peek_cel, settle_int, settle_bool, settle_none, settle_str, settle_list, settle_tuple, settle_edict, isTrueD_bool, biD, one, two, kindB, tyD, lenD, intOfD, iiD, sumD, listD, tupleD, binD, addD_int, subD, mulD_int, intD, cmpD, cmpI, isD, isNon, eqD_int, eqD_str, outD_rt, outD_rtt, outD_nx, bindT, List.set_cons_zero, List.set_cons_succ, wipeE, frE, celOf_int, celOf_bool, celOf_none, celOf_str, celOf_list, celOf_tuple, celOf_edict, celOf_cel, Option.isNone_none, Option.isNone_some, Bool.and_true, Bool.true_and, Bool.and_false, Bool.false_and, Bool.or_true, Bool.true_or, Bool.or_false, Bool.false_or, beginD_list, beginD_tuple, unlock_none, unlockO, idxD_list, idxD_tuple, setsE, decide_true, decide_false, List.take_nil, List.length_nil, List.length_cons, mtD, List.set_nil, List.getElem?_nil, Nat.zero_add, decide_eq_true_eq, sb_nil, sb_t, sb_f, sb_e, sa_nil, sa_cons, Nat.reduceSub, Nat.reduceLT, Nat.reduceAdd, Nat.reduceMul, Nat.reduceLeDiff, cnd_and, cnd_or, Option.bind_some, Option.map_some, Option.bind_none, Option.map_none, List.length_map, reduceCtorEq, beq_self_eq_true, eqD_nil, line, Nat.zero_le, ixD_0, ixD_1, ixD_2, ixD_last, Int.reduceEq, Int.reduceLT, Int.reduceLE, Int.reduceNeg, Int.reduceAdd, Int.reduceSub, Int.reduceMul, Nat.reduceEqDiff, Int.cast_ofNat_Int, List.getD_cons_zero, List.getD_cons_succ, t_square_fits, e2, e_lc, l1, eqD_rows_nil, d3, rngD_one (show g.length < 2 ^ 62 by omega), l4, e5, d4]
        unfold latB
        rw [h3, decide_eq_true h2]
        simp only [Bool.true_and]
    · have e2 : decide ((g.length : Int) < 2) = true := decide_eq_true (by omega)
      simp -implicitDefEqProofs only [bnd_some, bnd_none, mpd_some, mpd_none, cnd_true, cnd_false, e_var, vl_int, vl_bool, vl_none, vl_str, vl_list, vl_tuple, vl_edict, vl_cel, vl_scr, e_int, e_str, e_bl, e_non, e_edict, e_bin, e_neg, e_cmp, e_chain, e_and, e_or, e_not, e_ite, e_tup, e_lst, e_call, e_callk, e_bi, e_mt, e_idx, e_sl, e_slr, e_lc, e_thaw, e_lrng, l_nil, l_cons, o_nil, o_cons, t_nil, t_cons, i_rng, i_cons, s_asg, s_asgm, s_asgi, s_par, s_ex, s_ret, s_retm, s_retn, s_iff, s_forr, s_whl, s_pas, s_brk, s_cnt, b_nil, b_cons, th_nx, th_rt, th_bk, th_ct, List.getElem?_cons_zero, List.getElem?_cons_succ, List.map_cons, List.map_nil, List.cons_append, List.nil_append, List.replicate_succ, List.replicate_zero, if_true, if_false, Bool.false_eq_true, Bool.not_true, Bool.not_false, peek_int, peek_bool, peek_none, peek_str, peek_list, peek_tuple, peek_edict, peek_cel, settle_int, settle_bool, settle_none, settle_str, settle_list, settle_tuple, settle_edict, isTrueD_bool, biD, one, two, kindB, tyD, lenD, intOfD, iiD, sumD, listD, tupleD, binD, addD_int, subD, mulD_int, intD, cmpD, cmpI, isD, isNon, eqD_int, eqD_str, outD_rt, outD_rtt, outD_nx, bindT, List.set_cons_zero, List.set_cons_succ, wipeE, frE, celOf_int, celOf_bool, celOf_none, celOf_str, celOf_list, celOf_tuple, celOf_edict, celOf_cel, Option.isNone_none, Option.isNone_some, Bool.and_true, Bool.true_and, Bool.and_false, Bool.false_and, Bool.or_true, Bool.true_or, Bool.or_false, Bool.false_or, beginD_list, beginD_tuple, unlock_none, unlockO, idxD_list, idxD_tuple, setsE, decide_true, decide_false, List.take_nil, List.length_nil, List.length_cons, mtD, List.set_nil, List.getElem?_nil, Nat.zero_add, decide_eq_true_eq, sb_nil, sb_t, sb_f, sb_e, sa_nil, sa_cons, Nat.reduceSub, Nat.reduceLT, Nat.reduceAdd, Nat.reduceMul, Nat.reduceLeDiff, cnd_and, cnd_or, Option.bind_some, Option.map_some, Option.bind_none, Option.map_none, List.length_map, reduceCtorEq, beq_self_eq_true, eqD_nil, line, Nat.zero_le, ixD_0, ixD_1, ixD_2, ixD_last, Int.reduceEq, Int.reduceLT, Int.reduceLE, Int.reduceNeg, Int.reduceAdd, Int.reduceSub, Int.reduceMul, Nat.reduceEqDiff, Int.cast_ofNat_Int, List.getD_cons_zero, List.getD_cons_succ, t_square_fits, e2]
      unfold latB
      rw [decide_eq_false h2]; simp only [Bool.false_and])
end K50
end
section
set_option Elab.async false
set_option linter.all false
set_option maxRecDepth 100000
set_option maxHeartbeats 4000000
namespace K50
open PySem TW
variable {W : Nat}
/-! ### chains -/
def inD (n : Nat) : PyData → Bool
  | .int x => inB n x
  | _ => false
/-- what a state may be given as -/
def okS (d : PyData) : Bool := d.canLay0 && (match d with | .int _ | .none | .bool _ | .str _ => true | _ => false)
theorem cl_between_D (k n : Nat) {d : PyData} (h : okS d = true) (S : Sto) : callD (evC tb W (k + 2)) i_is_between [d, .int 0, .int ((n : Int) - 1)] S = some (.bool (inD n d), S) := by
  cases d with
  | int x => exact cl_between k x 0 _ S
  | none => exact cl_between_no k rfl 0 _ S
  | bool _ => exact cl_between_no k rfl 0 _ S
  | str _ => exact cl_between_no k rfl 0 _ S
  | list _ => simp [okS] at h
  | tuple _ => simp [okS] at h
  | dict _ => simp [okS] at h
theorem okS_cel {d : PyData} (h : okS d = true) (S : Sto) : peek S d = d ∧ settle S d = some (d, S) ∧ celOf d = none := by
  cases d <;> first | exact ⟨rfl, rfl, rfl⟩ | simp [okS] at h
theorem okS_vl {d : PyData} (h : okS d = true) (S : Sto) : vlD d S = some (d, S) := by
  cases d <;> first | rfl | simp [okS] at h
theorem okS_shaped {d : PyData} (h : okS d = true) : d.canLay0 = true ∧ d.depth = 0 := by
  unfold okS at h
  rw [Bool.and_eq_true] at h
  refine ⟨h.1, ?_⟩
  cases d <;> first | rfl | simp at h
theorem eqD_okS : ∀ {l : List PyData}, (∀ d ∈ l, okS d = true) → eqD (.list l) (.list []) = some (decide (l = [])) := fun {l} h => by
  rw [eqS_nil]
  have : PyData.canLayAll0 l = true ∧ PyData.depthAll l = 0 := by
    induction l with
    | nil => exact ⟨rfl, rfl⟩
    | cons d l ih =>
      obtain ⟨h1, h2⟩ := okS_shaped (h d (List.mem_cons_self ..))
      obtain ⟨h3, h4⟩ := ih fun x hx => h x (List.mem_cons_of_mem _ hx)
      refine ⟨?_, ?_⟩
      · show (PyData.canLay0 d && PyData.canLayAll0 l) = true
        rw [h1, h3]; rfl
      · show max (PyData.depth d) (PyData.depthAll l) = 0
        rw [h2, h4]; rfl
  unfold SeqAt.shaped
  simp only [PyData.canLay0, PyData.depth, this.1, this.2, Bool.true_and]
  rfl
theorem cl_square_D (k : Nat) (g : List (List Int)) (hg : g.length ≤ 1000) (hr : ∀ r ∈ g, r.length ≤ 1000) (S : Sto) : callD (evC tb W (k + 5)) i_square_fits [.list (g.map fun r => iL r)] S = some (.bool (latB g), S) := cl_square k g hg hr S
theorem cl_square_t (k : Nat) (ds : List PyData) (S : Sto) : callD (evC tb W (k + 5)) i_square_fits [.tuple ds] S = some (.bool false, S) :=
  callD_plain rfl (by
    rw [evC_run (fn := f_square_fits) rfl rfl]
    simp -implicitDefEqProofs only [bnd_some, bnd_none, mpd_some, mpd_none, cnd_true, cnd_false, e_var, vl_int, vl_bool, vl_none, vl_str, vl_list, vl_tuple, vl_edict, vl_cel, vl_scr, e_int, e_str, e_bl, e_non, e_edict, e_bin, e_neg, e_cmp, e_chain, e_and, e_or, e_not, e_ite, e_tup, e_lst, e_call, e_callk, e_bi, e_mt, e_idx, e_sl, e_slr, e_lc, e_thaw, e_lrng, l_nil, l_cons, o_nil, o_cons, t_nil, t_cons, i_rng, i_cons, s_asg, s_asgm, s_asgi, s_par, s_ex, s_ret, s_retm, s_retn, s_iff, s_forr, s_whl, s_pas, s_brk, s_cnt, b_nil, b_cons, th_nx, th_rt, th_bk, th_ct, List.getElem?_cons_zero, List.getElem?_cons_succ, List.map_cons, List.map_nil, List.cons_append, List.nil_append, List.replicate_succ, List.replicate_zero, if_true, if_false, Bool.false_eq_true, Bool.not_true, Bool.not_false, peek_int, peek_bool, peek_none, peek_str, peek_list, peek_tuple, peek_edict, peek_cel, settle_int, settle_bool, settle_none, settle_str, settle_list, settle_tuple, settle_edict, isTrueD_bool, biD, one, two, kindB, tyD, lenD, intOfD, iiD, sumD, listD, tupleD, binD, addD_int, subD, mulD_int, intD, cmpD, cmpI, isD, isNon, eqD_int, eqD_str, outD_rt, outD_rtt, outD_nx, bindT, List.set_cons_zero, List.set_cons_succ, wipeE, frE, celOf_int, celOf_bool, celOf_none, celOf_str, celOf_list, celOf_tuple, celOf_edict, celOf_cel, Option.isNone_none, Option.isNone_some, Bool.and_true, Bool.true_and, Bool.and_false, Bool.false_and, Bool.or_true, Bool.true_or, Bool.or_false, Bool.false_or, beginD_list, beginD_tuple, unlock_none, unlockO, idxD_list, idxD_tuple, setsE, decide_true, decide_false, List.take_nil, List.length_nil, List.length_cons, mtD, List.set_nil, List.getElem?_nil, Nat.zero_add, decide_eq_true_eq, sb_nil, sb_t, sb_f, sb_e, sa_nil, sa_cons, Nat.reduceSub, Nat.reduceLT, Nat.reduceAdd, Nat.reduceMul, Nat.reduceLeDiff, cnd_and, cnd_or, Option.bind_some, Option.map_some, Option.bind_none, Option.map_none, List.length_map, reduceCtorEq, beq_self_eq_true, eqD_nil, line, Nat.zero_le, ixD_0, ixD_1, ixD_2, ixD_last, Int.reduceEq, Int.reduceLT, Int.reduceLE, Int.reduceNeg, Int.reduceAdd, Int.reduceSub, Int.reduceMul, Nat.reduceEqDiff, Int.cast_ofNat_Int, List.getD_cons_zero, List.getD_cons_succ, t_square_fits]
    try rfl)
theorem cl_chain (k : Nat) (g : List (List Int)) (hg : g.length ≤ 1000) (hr : ∀ r ∈ g, r.length ≤ 1000) {a b : PyData} (ha : okS a = true) (hb : okS b = true) (S : Sto) :
    callD (evC tb W (k + 6)) i_chain_fits [.tuple [gridD g, a, b]] S = some (.bool (latB g && inD g.length a && inD g.length b), S) :=
  callD_plain rfl (by
    rw [evC_run (fn := f_chain_fits) rfl rfl]
    unfold gridD
    obtain ⟨a1, a2, a3⟩ := okS_cel ha []
    obtain ⟨b1, b2, b3⟩ := okS_cel hb []
    have i0 : ixD ([PyData.list (g.map fun r => iL r), a, b].length) 0 = some 0 := rfl
    have i1 : ixD 3 0 = some 0 := rfl
    have c1 : slD (.tuple [PyData.list (g.map fun r => iL r), a, b]) (some (.int 1)) none = some (.tuple [a, b]) := rfl
    cases h : latB g with
    | false =>
      simp -implicitDefEqProofs only [bnd_some, bnd_none, mpd_some, mpd_none, cnd_true, cnd_false, e_var, vl_int, vl_bool, vl_none, vl_str, vl_list, vl_tuple, vl_edict, vl_cel, vl_scr, e_int, e_str, e_bl, e_non, e_edict, e_bin, e_neg, e_cmp, e_chain, e_and, e_or, e_not, e_ite, e_tup, e_lst, e_call, e_callk, e_bi, e_mt, e_idx, e_sl, e_slr, e_lc, e_thaw, e_lrng, l_nil, l_cons, o_nil, o_cons, t_nil, t_cons, i_rng, i_cons, s_asg, s_asgm, s_asgi, s_par, s_ex, s_ret, s_retm, s_retn, s_iff, s_forr, s_whl, s_pas, s_brk, s_cnt, b_nil, b_cons, th_nx, th_rt, th_bk, th_ct, List.getElem?_cons_zero, List.getElem?_cons_succ, List.map_cons, List.map_nil, List.cons_append, List.nil_append, List.replicate_succ, List.replicate_zero, if_true, if_false, Bool.false_eq_true, Bool.not_true, Bool.not_false, peek_int, peek_bool, peek_none, peek_str, peek_list, peek_tuple, peek_edict, peek_cel, settle_int, settle_bool, settle_none, settle_str, settle_list, settle_tuple, settle_edict, isTrueD_bool, biD, one, two, kindB, tyD, lenD, intOfD, iiD, sumD, listD, tupleD, binD, addD_int, subD, mulD_int, intD, cmpD, cmpI, isD, isNon, eqD_int, eqD_str, outD_rt, outD_rtt, outD_nx, bindT, List.set_cons_zero, List.set_cons_succ, wipeE, frE, celOf_int, celOf_bool, celOf_none, celOf_str, celOf_list, celOf_tuple, celOf_edict, celOf_cel, Option.isNone_none, Option.isNone_some, Bool.and_true, Bool.true_and, Bool.and_false, Bool.false_and, Bool.or_true, Bool.true_or, Bool.or_false, Bool.false_or, beginD_list, beginD_tuple, unlock_none, unlockO, idxD_list, idxD_tuple, setsE, decide_true, decide_false, List.take_nil, List.length_nil, List.length_cons, mtD, List.set_nil, List.getElem?_nil, Nat.zero_add, decide_eq_true_eq, sb_nil, sb_t, sb_f, sb_e, sa_nil, sa_cons, Nat.reduceSub, Nat.reduceLT, Nat.reduceAdd, Nat.reduceMul, Nat.reduceLeDiff, cnd_and, cnd_or, Option.bind_some, Option.map_some, Option.bind_none, Option.map_none, List.length_map, reduceCtorEq, beq_self_eq_true, eqD_nil, line, Nat.zero_le, ixD_0, ixD_1, ixD_2, ixD_last, Int.reduceEq, Int.reduceLT, Int.reduceLE, Int.reduceNeg, Int.reduceAdd, Int.reduceSub, Int.reduceMul, Nat.reduceEqDiff, Int.cast_ofNat_Int, List.getD_cons_zero, List.getD_cons_succ, t_chain_fits, i1, cl_square_D k g hg hr, h]
    | true =>
      have hc : ∀ d : PyData, okS d = true → lcOne tb (evC tb W (k + 5)) [some (.tuple [PyData.list (g.map fun r => iL r), a, b]), none] [1] (.var 1) (.cons (.not (.call i_is_between [] (.cons (.var 1) (.cons (.int 0) (.cons (.bin .sub (.bi .len (.cons (.idx (.var 0) (.int 0)) .nil)) (.int 1)) .nil))))) .nil) (.var 1) d [] = some (if !inD g.length d then some d else none, []) := fun d hd => by
        obtain ⟨d1, d2, d3⟩ := okS_cel hd []
        have d4 := okS_vl hd []
        cases h : inD g.length d <;> simp -implicitDefEqProofs only [lcOne, bnd_some, bnd_none, mpd_some, mpd_none, cnd_true, cnd_false, e_var, vl_int, vl_bool, vl_none, vl_str, vl_list, vl_tuple, vl_edict, vl_cel, vl_scr, e_int, e_str, e_bl, e_non, e_edict, e_bin, e_neg, e_cmp, e_chain, e_and, e_or, e_not, e_ite, e_tup, e_lst, e_call, e_callk, e_bi, e_mt, e_idx, e_sl, e_slr, e_lc, e_thaw, e_lrng, l_nil, l_cons, o_nil, o_cons, t_nil, t_cons, i_rng, i_cons, s_asg, s_asgm, s_asgi, s_par, s_ex, s_ret, s_retm, s_retn, s_iff, s_forr, s_whl, s_pas, s_brk, s_cnt, b_nil, b_cons, th_nx, th_rt, th_bk, th_ct, List.getElem?_cons_zero, List.getElem?_cons_succ, List.map_cons, List.map_nil, List.cons_append, List.nil_append, List.replicate_succ, List.replicate_zero, if_true, if_false, Bool.false_eq_true, Bool.not_true, Bool.not_false, peek_int, peek_bool, peek_none, peek_str, peek_list, peek_tuple, peek_edict, peek_cel, settle_int, settle_bool, settle_none, settle_str, settle_list, settle_tuple, settle_edict, isTrueD_bool, biD, one, two, kindB, tyD, lenD, intOfD, iiD, sumD, listD, tupleD, binD, addD_int, subD, mulD_int, intD, cmpD, cmpI, isD, isNon, eqD_int, eqD_str, outD_rt, outD_rtt, outD_nx, bindT, List.set_cons_zero, List.set_cons_succ, wipeE, frE, celOf_int, celOf_bool, celOf_none, celOf_str, celOf_list, celOf_tuple, celOf_edict, celOf_cel, Option.isNone_none, Option.isNone_some, Bool.and_true, Bool.true_and, Bool.and_false, Bool.false_and, Bool.or_true, Bool.true_or, Bool.or_false, Bool.false_or, beginD_list, beginD_tuple, unlock_none, unlockO, idxD_list, idxD_tuple, setsE, decide_true, decide_false, List.take_nil, List.length_nil, List.length_cons, mtD, List.set_nil, List.getElem?_nil, Nat.zero_add, decide_eq_true_eq, sb_nil, sb_t, sb_f, sb_e, sa_nil, sa_cons, Nat.reduceSub, Nat.reduceLT, Nat.reduceAdd, Nat.reduceMul, Nat.reduceLeDiff, cnd_and, cnd_or, Option.bind_some, Option.map_some, Option.bind_none, Option.map_none, List.length_map, reduceCtorEq, beq_self_eq_true, eqD_nil, line, Nat.zero_le, ixD_0, ixD_1, ixD_2, ixD_last, Int.reduceEq, Int.reduceLT, Int.reduceLE, Int.reduceNeg, Int.reduceAdd, Int.reduceSub, Int.reduceMul, Nat.reduceEqDiff, Int.cast_ofNat_Int, List.getD_cons_zero, List.getD_cons_succ, i1, cl_between_D (k + 3) g.length hd, h, d1, d2, d3, d4]
      have l1 := lcLoop_map (f := id) (g := id) (p := fun d => !inD g.length d) [a, b] [] (fun d hd => hc d (by simp at hd; rcases hd with rfl | rfl <;> assumption)) (le_line (by simp))
      rw [List.map_id] at l1
      have e5 := eqD_okS (l := [a, b].filter fun d => !inD g.length d) (fun d hd => by
        have := (List.mem_filter.mp hd).1
        simp at this
        rcases this with rfl | rfl <;> assumption)
      rw [filter_none] at e5
      simp -implicitDefEqProofs only [bnd_some, bnd_none, mpd_some, mpd_none, cnd_true, cnd_false, e_var, vl_int, vl_bool, vl_none, vl_str, vl_list, vl_tuple, vl_edict, vl_cel, vl_scr, e_int, e_str, e_bl, e_non, e_edict, e_bin, e_neg, e_cmp, e_chain, e_and, e_or, e_not, e_ite, e_tup, e_lst, e_call, e_callk, e_bi, e_mt, e_idx, e_sl, e_slr, e_lc, e_thaw, e_lrng, l_nil, l_cons, o_nil, o_cons, t_nil, t_cons, i_rng, i_cons, s_asg, s_asgm, s_asgi, s_par, s_ex, s_ret, s_retm, s_retn, s_iff, s_forr, s_whl, s_pas, s_brk, s_cnt, b_nil, b_cons, th_nx, th_rt, th_bk, th_ct, List.getElem?_cons_zero, List.getElem?_cons_succ, List.map_cons, List.map_nil, List.cons_append, List.nil_append, List.replicate_succ, List.replicate_zero, if_true, if_false, Bool.false_eq_true, Bool.not_true, Bool.not_false, peek_int, peek_bool, peek_none, peek_str, peek_list, peek_tuple, peek_edict, peek_cel, settle_int, settle_bool, settle_none, settle_str, settle_list, settle_tuple, settle_edict, isTrueD_bool, biD, one, two, kindB, tyD, lenD, intOfD, iiD, sumD, listD, tupleD, binD, addD_int, subD, mulD_int, intD, cmpD, cmpI, isD, isNon, eqD_int, eqD_str, outD_rt, outD_rtt, outD_nx, bindT, List.set_cons_zero, List.set_cons_succ, wipeE, frE, celOf_int, celOf_bool, celOf_none, celOf_str, celOf_list, celOf_tuple, celOf_edict, celOf_cel, Option.isNone_none, Option.isNone_some, Bool.and_true, Bool.true_and, Bool.and_false, Bool.false_and, Bool.or_true, Bool.true_or, Bool.or_false, Bool.false_or, beginD_list, beginD_tuple, unlock_none, unlockO, idxD_list, idxD_tuple, setsE, decide_true, decide_false, List.take_nil, List.length_nil, List.length_cons, mtD, List.set_nil, List.getElem?_nil, Nat.zero_add, decide_eq_true_eq, sb_nil, sb_t, sb_f, sb_e, sa_nil, sa_cons, Nat.reduceSub, Nat.reduceLT, Nat.reduceAdd, Nat.reduceMul, Nat.reduceLeDiff, cnd_and, cnd_or, Option.bind_some, Option.map_some, Option.bind_none, Option.map_none, List.length_map, reduceCtorEq, beq_self_eq_true, eqD_nil, line, Nat.zero_le, ixD_0, ixD_1, ixD_2, ixD_last, Int.reduceEq, Int.reduceLT, Int.reduceLE, Int.reduceNeg, Int.reduceAdd, Int.reduceSub, Int.reduceMul, Nat.reduceEqDiff, Int.cast_ofNat_Int, List.getD_cons_zero, List.getD_cons_succ, t_chain_fits, i1, cl_square_D k g hg hr, h, e_lc, c1, l1, List.map_id, e5, List.all_cons, List.all_nil])
theorem cl_chain_t (k : Nat) (ds : List PyData) (a b : PyData) (S : Sto) : callD (evC tb W (k + 6)) i_chain_fits [.tuple [.tuple ds, a, b]] S = some (.bool false, S) :=
  callD_plain rfl (by
    rw [evC_run (fn := f_chain_fits) rfl rfl]
    simp -implicitDefEqProofs only [bnd_some, bnd_none, mpd_some, mpd_none, cnd_true, cnd_false, e_var, vl_int, vl_bool, vl_none, vl_str, vl_list, vl_tuple, vl_edict, vl_cel, vl_scr, e_int, e_str, e_bl, e_non, e_edict, e_bin, e_neg, e_cmp, e_chain, e_and, e_or, e_not, e_ite, e_tup, e_lst, e_call, e_callk, e_bi, e_mt, e_idx, e_sl, e_slr, e_lc, e_thaw, e_lrng, l_nil, l_cons, o_nil, o_cons, t_nil, t_cons, i_rng, i_cons, s_asg, s_asgm, s_asgi, s_par, s_ex, s_ret, s_retm, s_retn, s_iff, s_forr, s_whl, s_pas, s_brk, s_cnt, b_nil, b_cons, th_nx, th_rt, th_bk, th_ct, List.getElem?_cons_zero, List.getElem?_cons_succ, List.map_cons, List.map_nil, List.cons_append, List.nil_append, List.replicate_succ, List.replicate_zero, if_true, if_false, Bool.false_eq_true, Bool.not_true, Bool.not_false, peek_int, peek_bool, peek_none, peek_str, peek_list, peek_tuple, peek_edict, peek_cel, settle_int, settle_bool, settle_none, settle_str, settle_list, settle_tuple, settle_edict, isTrueD_bool, biD, one, two, kindB, tyD, lenD, intOfD, iiD, sumD, listD, tupleD, binD, addD_int, subD, mulD_int, intD, cmpD, cmpI, isD, isNon, eqD_int, eqD_str, outD_rt, outD_rtt, outD_nx, bindT, List.set_cons_zero, List.set_cons_succ, wipeE, frE, celOf_int, celOf_bool, celOf_none, celOf_str, celOf_list, celOf_tuple, celOf_edict, celOf_cel, Option.isNone_none, Option.isNone_some, Bool.and_true, Bool.true_and, Bool.and_false, Bool.false_and, Bool.or_true, Bool.true_or, Bool.or_false, Bool.false_or, beginD_list, beginD_tuple, unlock_none, unlockO, idxD_list, idxD_tuple, setsE, decide_true, decide_false, List.take_nil, List.length_nil, List.length_cons, mtD, List.set_nil, List.getElem?_nil, Nat.zero_add, decide_eq_true_eq, sb_nil, sb_t, sb_f, sb_e, sa_nil, sa_cons, Nat.reduceSub, Nat.reduceLT, Nat.reduceAdd, Nat.reduceMul, Nat.reduceLeDiff, cnd_and, cnd_or, Option.bind_some, Option.map_some, Option.bind_none, Option.map_none, List.length_map, reduceCtorEq, beq_self_eq_true, eqD_nil, line, Nat.zero_le, ixD_0, ixD_1, ixD_2, ixD_last, Int.reduceEq, Int.reduceLT, Int.reduceLE, Int.reduceNeg, Int.reduceAdd, Int.reduceSub, Int.reduceMul, Nat.reduceEqDiff, Int.cast_ofNat_Int, List.getD_cons_zero, List.getD_cons_succ, t_chain_fits, cl_square_t k])
theorem cl_chain_len (k : Nat) (ds : List PyData) (h : ds.length ≠ 3) (S : Sto) : callD (evC tb W (k + 6)) i_chain_fits [.tuple ds] S = some (.bool false, S) :=
  callD_plain rfl (by
    rw [evC_run (fn := f_chain_fits) rfl rfl]
    have e : decide ((ds.length : Int) = 3) = false := decide_eq_false (by omega)
    simp -implicitDefEqProofs only [bnd_some, bnd_none, mpd_some, mpd_none, cnd_true, cnd_false, e_var, vl_int, vl_bool, vl_none, vl_str, vl_list, vl_tuple, vl_edict, vl_cel, vl_scr, e_int, e_str, e_bl, e_non, e_edict, e_bin, e_neg, e_cmp, e_chain, e_and, e_or, e_not, e_ite, e_tup, e_lst, e_call, e_callk, e_bi, e_mt, e_idx, e_sl, e_slr, e_lc, e_thaw, e_lrng, l_nil, l_cons, o_nil, o_cons, t_nil, t_cons, i_rng, i_cons, s_asg, s_asgm, s_asgi, s_par, s_ex, s_ret, s_retm, s_retn, s_iff, s_forr, s_whl, s_pas, s_brk, s_cnt, b_nil, b_cons, th_nx, th_rt, th_bk, th_ct, List.getElem?_cons_zero, List.getElem?_cons_succ, List.map_cons, List.map_nil, List.cons_append, List.nil_append, List.replicate_succ, List.replicate_zero, if_true, if_false, Bool.false_eq_true, Bool.not_true, Bool.not_false, peek_int, peek_bool, peek_none, peek_str, peek_list, peek_tuple, peek_edict, peek_cel, settle_int, settle_bool, settle_none, settle_str, settle_list, settle_tuple, settle_edict, isTrueD_bool, biD, one, two, kindB, tyD, lenD, intOfD, iiD, sumD, listD, tupleD, binD, addD_int, subD, mulD_int, intD, cmpD, cmpI, isD, isNon, eqD_int, eqD_str, outD_rt, outD_rtt, outD_nx, bindT, List.set_cons_zero, List.set_cons_succ, wipeE, frE, celOf_int, celOf_bool, celOf_none, celOf_str, celOf_list, celOf_tuple, celOf_edict, celOf_cel, Option.isNone_none, Option.isNone_some, Bool.and_true, Bool.true_and, Bool.and_false, Bool.false_and, Bool.or_true, Bool.true_or, Bool.or_false, Bool.false_or, beginD_list, beginD_tuple, unlock_none, unlockO, idxD_list, idxD_tuple, setsE, decide_true, decide_false, List.take_nil, List.length_nil, List.length_cons, mtD, List.set_nil, List.getElem?_nil, Nat.zero_add, decide_eq_true_eq, sb_nil, sb_t, sb_f, sb_e, sa_nil, sa_cons, Nat.reduceSub, Nat.reduceLT, Nat.reduceAdd, Nat.reduceMul, Nat.reduceLeDiff, cnd_and, cnd_or, Option.bind_some, Option.map_some, Option.bind_none, Option.map_none, List.length_map, reduceCtorEq, beq_self_eq_true, eqD_nil, line, Nat.zero_le, ixD_0, ixD_1, ixD_2, ixD_last, Int.reduceEq, Int.reduceLT, Int.reduceLE, Int.reduceNeg, Int.reduceAdd, Int.reduceSub, Int.reduceMul, Nat.reduceEqDiff, Int.cast_ofNat_Int, List.getD_cons_zero, List.getD_cons_succ, t_chain_fits, e])
theorem cl_chain_no (k : Nat) {d : PyData} (h : oddB d = true ∨ (∃ ds, d = .list ds) ∨ d = .dict [] ∨ ∃ i, d = .int i) (S : Sto) : callD (evC tb W (k + 6)) i_chain_fits [d] S = some (.bool false, S) := by
  rcases h with h | ⟨ds, rfl⟩ | rfl | ⟨i, rfl⟩
  · cases d <;> first
      | (cases h; done)
      | exact callD_plain rfl (by rw [evC_run (fn := f_chain_fits) rfl rfl]; simp -implicitDefEqProofs only [bnd_some, bnd_none, mpd_some, mpd_none, cnd_true, cnd_false, e_var, vl_int, vl_bool, vl_none, vl_str, vl_list, vl_tuple, vl_edict, vl_cel, vl_scr, e_int, e_str, e_bl, e_non, e_edict, e_bin, e_neg, e_cmp, e_chain, e_and, e_or, e_not, e_ite, e_tup, e_lst, e_call, e_callk, e_bi, e_mt, e_idx, e_sl, e_slr, e_lc, e_thaw, e_lrng, l_nil, l_cons, o_nil, o_cons, t_nil, t_cons, i_rng, i_cons, s_asg, s_asgm, s_asgi, s_par, s_ex, s_ret, s_retm, s_retn, s_iff, s_forr, s_whl, s_pas, s_brk, s_cnt, b_nil, b_cons, th_nx, th_rt, th_bk, th_ct, List.getElem?_cons_zero, List.getElem?_cons_succ, List.map_cons, List.map_nil, List.cons_append, List.nil_append, List.replicate_succ, List.replicate_zero, if_true, if_false, Bool.false_eq_true, Bool.not_true, Bool.not_false, peek_int, peek_bool, peek_none, peek_str, peek_list, peek_tuple, peek_edict, peek_cel, settle_int, settle_bool, settle_none, settle_str, settle_list, settle_tuple, settle_edict, isTrueD_bool, biD, one, two, kindB, tyD, lenD, intOfD, iiD, sumD, listD, tupleD, binD, addD_int, subD, mulD_int, intD, cmpD, cmpI, isD, isNon, eqD_int, eqD_str, outD_rt, outD_rtt, outD_nx, bindT, List.set_cons_zero, List.set_cons_succ, wipeE, frE, celOf_int, celOf_bool, celOf_none, celOf_str, celOf_list, celOf_tuple, celOf_edict, celOf_cel, Option.isNone_none, Option.isNone_some, Bool.and_true, Bool.true_and, Bool.and_false, Bool.false_and, Bool.or_true, Bool.true_or, Bool.or_false, Bool.false_or, beginD_list, beginD_tuple, unlock_none, unlockO, idxD_list, idxD_tuple, setsE, decide_true, decide_false, List.take_nil, List.length_nil, List.length_cons, mtD, List.set_nil, List.getElem?_nil, Nat.zero_add, decide_eq_true_eq, sb_nil, sb_t, sb_f, sb_e, sa_nil, sa_cons, Nat.reduceSub, Nat.reduceLT, Nat.reduceAdd, Nat.reduceMul, Nat.reduceLeDiff, cnd_and, cnd_or, Option.bind_some, Option.map_some, Option.bind_none, Option.map_none, List.length_map, reduceCtorEq, beq_self_eq_true, eqD_nil, line, Nat.zero_le, ixD_0, ixD_1, ixD_2, ixD_last, Int.reduceEq, Int.reduceLT, Int.reduceLE, Int.reduceNeg, Int.reduceAdd, Int.reduceSub, Int.reduceMul, Nat.reduceEqDiff, Int.cast_ofNat_Int, List.getD_cons_zero, List.getD_cons_succ, t_chain_fits]; try rfl)
  · exact callD_plain rfl (by rw [evC_run (fn := f_chain_fits) rfl rfl]; simp -implicitDefEqProofs only [bnd_some, bnd_none, mpd_some, mpd_none, cnd_true, cnd_false, e_var, vl_int, vl_bool, vl_none, vl_str, vl_list, vl_tuple, vl_edict, vl_cel, vl_scr, e_int, e_str, e_bl, e_non, e_edict, e_bin, e_neg, e_cmp, e_chain, e_and, e_or, e_not, e_ite, e_tup, e_lst, e_call, e_callk, e_bi, e_mt, e_idx, e_sl, e_slr, e_lc, e_thaw, e_lrng, l_nil, l_cons, o_nil, o_cons, t_nil, t_cons, i_rng, i_cons, s_asg, s_asgm, s_asgi, s_par, s_ex, s_ret, s_retm, s_retn, s_iff, s_forr, s_whl, s_pas, s_brk, s_cnt, b_nil, b_cons, th_nx, th_rt, th_bk, th_ct, List.getElem?_cons_zero, List.getElem?_cons_succ, List.map_cons, List.map_nil, List.cons_append, List.nil_append, List.replicate_succ, List.replicate_zero, if_true, if_false, Bool.false_eq_true, Bool.not_true, Bool.not_false, peek_int, peek_bool, peek_none, peek_str, peek_list, peek_tuple, peek_edict, peek_cel, settle_int, settle_bool, settle_none, settle_str, settle_list, settle_tuple, settle_edict, isTrueD_bool, biD, one, two, kindB, tyD, lenD, intOfD, iiD, sumD, listD, tupleD, binD, addD_int, subD, mulD_int, intD, cmpD, cmpI, isD, isNon, eqD_int, eqD_str, outD_rt, outD_rtt, outD_nx, bindT, List.set_cons_zero, List.set_cons_succ, wipeE, frE, celOf_int, celOf_bool, celOf_none, celOf_str, celOf_list, celOf_tuple, celOf_edict, celOf_cel, Option.isNone_none, Option.isNone_some, Bool.and_true, Bool.true_and, Bool.and_false, Bool.false_and, Bool.or_true, Bool.true_or, Bool.or_false, Bool.false_or, beginD_list, beginD_tuple, unlock_none, unlockO, idxD_list, idxD_tuple, setsE, decide_true, decide_false, List.take_nil, List.length_nil, List.length_cons, mtD, List.set_nil, List.getElem?_nil, Nat.zero_add, decide_eq_true_eq, sb_nil, sb_t, sb_f, sb_e, sa_nil, sa_cons, Nat.reduceSub, Nat.reduceLT, Nat.reduceAdd, Nat.reduceMul, Nat.reduceLeDiff, cnd_and, cnd_or, Option.bind_some, Option.map_some, Option.bind_none, Option.map_none, List.length_map, reduceCtorEq, beq_self_eq_true, eqD_nil, line, Nat.zero_le, ixD_0, ixD_1, ixD_2, ixD_last, Int.reduceEq, Int.reduceLT, Int.reduceLE, Int.reduceNeg, Int.reduceAdd, Int.reduceSub, Int.reduceMul, Nat.reduceEqDiff, Int.cast_ofNat_Int, List.getD_cons_zero, List.getD_cons_succ, t_chain_fits]; try rfl)
  · exact callD_plain rfl (by rw [evC_run (fn := f_chain_fits) rfl rfl]; simp -implicitDefEqProofs only [bnd_some, bnd_none, mpd_some, mpd_none, cnd_true, cnd_false, e_var, vl_int, vl_bool, vl_none, vl_str, vl_list, vl_tuple, vl_edict, vl_cel, vl_scr, e_int, e_str, e_bl, e_non, e_edict, e_bin, e_neg, e_cmp, e_chain, e_and, e_or, e_not, e_ite, e_tup, e_lst, e_call, e_callk, e_bi, e_mt, e_idx, e_sl, e_slr, e_lc, e_thaw, e_lrng, l_nil, l_cons, o_nil, o_cons, t_nil, t_cons, i_rng, i_cons, s_asg, s_asgm, s_asgi, s_par, s_ex, s_ret, s_retm, s_retn, s_iff, s_forr, s_whl, s_pas, s_brk, s_cnt, b_nil, b_cons, th_nx, th_rt, th_bk, th_ct, List.getElem?_cons_zero, List.getElem?_cons_succ, List.map_cons, List.map_nil, List.cons_append, List.nil_append, List.replicate_succ, List.replicate_zero, if_true, if_false, Bool.false_eq_true, Bool.not_true, Bool.not_false, peek_int, peek_bool, peek_none, peek_str, peek_list, peek_tuple, peek_edict, peek_cel, settle_int, settle_bool, settle_none, settle_str, settle_list, settle_tuple, settle_edict, isTrueD_bool, biD, one, two, kindB, tyD, lenD, intOfD, iiD, sumD, listD, tupleD, binD, addD_int, subD, mulD_int, intD, cmpD, cmpI, isD, isNon, eqD_int, eqD_str, outD_rt, outD_rtt, outD_nx, bindT, List.set_cons_zero, List.set_cons_succ, wipeE, frE, celOf_int, celOf_bool, celOf_none, celOf_str, celOf_list, celOf_tuple, celOf_edict, celOf_cel, Option.isNone_none, Option.isNone_some, Bool.and_true, Bool.true_and, Bool.and_false, Bool.false_and, Bool.or_true, Bool.true_or, Bool.or_false, Bool.false_or, beginD_list, beginD_tuple, unlock_none, unlockO, idxD_list, idxD_tuple, setsE, decide_true, decide_false, List.take_nil, List.length_nil, List.length_cons, mtD, List.set_nil, List.getElem?_nil, Nat.zero_add, decide_eq_true_eq, sb_nil, sb_t, sb_f, sb_e, sa_nil, sa_cons, Nat.reduceSub, Nat.reduceLT, Nat.reduceAdd, Nat.reduceMul, Nat.reduceLeDiff, cnd_and, cnd_or, Option.bind_some, Option.map_some, Option.bind_none, Option.map_none, List.length_map, reduceCtorEq, beq_self_eq_true, eqD_nil, line, Nat.zero_le, ixD_0, ixD_1, ixD_2, ixD_last, Int.reduceEq, Int.reduceLT, Int.reduceLE, Int.reduceNeg, Int.reduceAdd, Int.reduceSub, Int.reduceMul, Nat.reduceEqDiff, Int.cast_ofNat_Int, List.getD_cons_zero, List.getD_cons_succ, t_chain_fits]; try rfl)
  · exact callD_plain rfl (by rw [evC_run (fn := f_chain_fits) rfl rfl]; simp -implicitDefEqProofs only [bnd_some, bnd_none, mpd_some, mpd_none, cnd_true, cnd_false, e_var, vl_int, vl_bool, vl_none, vl_str, vl_list, vl_tuple, vl_edict, vl_cel, vl_scr, e_int, e_str, e_bl, e_non, e_edict, e_bin, e_neg, e_cmp, e_chain, e_and, e_or, e_not, e_ite, e_tup, e_lst, e_call, e_callk, e_bi, e_mt, e_idx, e_sl, e_slr, e_lc, e_thaw, e_lrng, l_nil, l_cons, o_nil, o_cons, t_nil, t_cons, i_rng, i_cons, s_asg, s_asgm, s_asgi, s_par, s_ex, s_ret, s_retm, s_retn, s_iff, s_forr, s_whl, s_pas, s_brk, s_cnt, b_nil, b_cons, th_nx, th_rt, th_bk, th_ct, List.getElem?_cons_zero, List.getElem?_cons_succ, List.map_cons, List.map_nil, List.cons_append, List.nil_append, List.replicate_succ, List.replicate_zero, if_true, if_false, Bool.false_eq_true, Bool.not_true, Bool.not_false, peek_int, peek_bool, peek_none, peek_str, peek_list, peek_tuple, peek_edict, peek_cel, settle_int, settle_bool, settle_none, settle_str, settle_list, settle_tuple, settle_edict, isTrueD_bool, biD, one, two, kindB, tyD, lenD, intOfD, iiD, sumD, listD, tupleD, binD, addD_int, subD, mulD_int, intD, cmpD, cmpI, isD, isNon, eqD_int, eqD_str, outD_rt, outD_rtt, outD_nx, bindT, List.set_cons_zero, List.set_cons_succ, wipeE, frE, celOf_int, celOf_bool, celOf_none, celOf_str, celOf_list, celOf_tuple, celOf_edict, celOf_cel, Option.isNone_none, Option.isNone_some, Bool.and_true, Bool.true_and, Bool.and_false, Bool.false_and, Bool.or_true, Bool.true_or, Bool.or_false, Bool.false_or, beginD_list, beginD_tuple, unlock_none, unlockO, idxD_list, idxD_tuple, setsE, decide_true, decide_false, List.take_nil, List.length_nil, List.length_cons, mtD, List.set_nil, List.getElem?_nil, Nat.zero_add, decide_eq_true_eq, sb_nil, sb_t, sb_f, sb_e, sa_nil, sa_cons, Nat.reduceSub, Nat.reduceLT, Nat.reduceAdd, Nat.reduceMul, Nat.reduceLeDiff, cnd_and, cnd_or, Option.bind_some, Option.map_some, Option.bind_none, Option.map_none, List.length_map, reduceCtorEq, beq_self_eq_true, eqD_nil, line, Nat.zero_le, ixD_0, ixD_1, ixD_2, ixD_last, Int.reduceEq, Int.reduceLT, Int.reduceLE, Int.reduceNeg, Int.reduceAdd, Int.reduceSub, Int.reduceMul, Nat.reduceEqDiff, Int.cast_ofNat_Int, List.getD_cons_zero, List.getD_cons_succ, t_chain_fits]; try rfl)
/-- is_chain answers as chain_fits -/
theorem cl_check_chain (k : Nat) {d : PyData} (hp : plainD [d] = true) (hv : vlD d [] = some (d, [])) (hs : settle [] d = some (d, [])) (h : ∀ S, callD (evC tb W (k + 6)) i_chain_fits [d] S = some (.bool true, S)) (S : Sto) : callD (evC tb W (k + 7)) i_check_chain [d] S = some (.none, S) :=
  callD_plain hp (by
    rw [evC_run (fn := f_check_chain) rfl rfl]
    simp -implicitDefEqProofs only [bnd_some, bnd_none, mpd_some, mpd_none, cnd_true, cnd_false, e_var, vl_int, vl_bool, vl_none, vl_str, vl_list, vl_tuple, vl_edict, vl_cel, vl_scr, e_int, e_str, e_bl, e_non, e_edict, e_bin, e_neg, e_cmp, e_chain, e_and, e_or, e_not, e_ite, e_tup, e_lst, e_call, e_callk, e_bi, e_mt, e_idx, e_sl, e_slr, e_lc, e_thaw, e_lrng, l_nil, l_cons, o_nil, o_cons, t_nil, t_cons, i_rng, i_cons, s_asg, s_asgm, s_asgi, s_par, s_ex, s_ret, s_retm, s_retn, s_iff, s_forr, s_whl, s_pas, s_brk, s_cnt, b_nil, b_cons, th_nx, th_rt, th_bk, th_ct, List.getElem?_cons_zero, List.getElem?_cons_succ, List.map_cons, List.map_nil, List.cons_append, List.nil_append, List.replicate_succ, List.replicate_zero, if_true, if_false, Bool.false_eq_true, Bool.not_true, Bool.not_false, peek_int, peek_bool, peek_none, peek_str, peek_list, peek_tuple, peek_edict, peek_cel, settle_int, settle_bool, settle_none, settle_str, settle_list, settle_tuple, settle_edict, isTrueD_bool, biD, one, two, kindB, tyD, lenD, intOfD, iiD, sumD, listD, tupleD, binD, addD_int, subD, mulD_int, intD, cmpD, cmpI, isD, isNon, eqD_int, eqD_str, outD_rt, outD_rtt, outD_nx, bindT, List.set_cons_zero, List.set_cons_succ, wipeE, frE, celOf_int, celOf_bool, celOf_none, celOf_str, celOf_list, celOf_tuple, celOf_edict, celOf_cel, Option.isNone_none, Option.isNone_some, Bool.and_true, Bool.true_and, Bool.and_false, Bool.false_and, Bool.or_true, Bool.true_or, Bool.or_false, Bool.false_or, beginD_list, beginD_tuple, unlock_none, unlockO, idxD_list, idxD_tuple, setsE, decide_true, decide_false, List.take_nil, List.length_nil, List.length_cons, mtD, List.set_nil, List.getElem?_nil, Nat.zero_add, decide_eq_true_eq, sb_nil, sb_t, sb_f, sb_e, sa_nil, sa_cons, Nat.reduceSub, Nat.reduceLT, Nat.reduceAdd, Nat.reduceMul, Nat.reduceLeDiff, cnd_and, cnd_or, Option.bind_some, Option.map_some, Option.bind_none, Option.map_none, List.length_map, reduceCtorEq, beq_self_eq_true, eqD_nil, line, Nat.zero_le, ixD_0, ixD_1, ixD_2, ixD_last, Int.reduceEq, Int.reduceLT, Int.reduceLE, Int.reduceNeg, Int.reduceAdd, Int.reduceSub, Int.reduceMul, Nat.reduceEqDiff, Int.cast_ofNat_Int, List.getD_cons_zero, List.getD_cons_succ, t_check_chain, hv, hs, h])
/-! ### good chains -/
structure Good (g : List (List Int)) (s e : Int) : Prop where
  few : g.length ≤ 1000
  row : ∀ r ∈ g, r.length = g.length
  lat : latB g = true
  s_in : inB g.length s = true
  e_in : inB g.length e = true
abbrev chD (g : List (List Int)) (s e : Int) : PyData := .tuple [.list (g.map fun r => iL r), .int s, .int e]
theorem Good.fits {g : List (List Int)} {s e : Int} (G : Good g s e) (k : Nat) (S : Sto) : callD (evC tb W (k + 6)) i_chain_fits [chD g s e] S = some (.bool true, S) := by
  have := cl_chain (W := W) k g G.few (fun r hr => by rw [G.row r hr]; exact G.few) (a := .int s) (b := .int e) rfl rfl S
  rw [G.lat, show inD g.length (.int s) = true from G.s_in, show inD g.length (.int e) = true from G.e_in] at this
  exact this
end K50
end
section
set_option Elab.async false
set_option linter.all false
set_option maxRecDepth 100000
set_option maxHeartbeats 4000000
namespace K50
open PySem TW
variable {W : Nat}
/-! ### states -/
def ent (g : List (List Int)) (s x : Int) : Int := (g.getD s.toNat []).getD x.toNat 0
def fin (g : List (List Int)) (s : Int) : List Int → Int
  | [] => s
  | x :: xs => fin g (ent g s x) xs
def sts (g : List (List Int)) (s : Int) : List Int → List Int
  | [] => [s]
  | x :: xs => s :: sts g (ent g s x) xs
theorem fin_app (g : List (List Int)) : ∀ (c d : List Int) (s : Int), fin g s (c ++ d) = fin g (fin g s c) d
  | [], _, _ => rfl
  | x :: c, d, s => fin_app g c d (ent g s x)
theorem sts_snoc (g : List (List Int)) : ∀ (c : List Int) (s x : Int), sts g s (c ++ [x]) = sts g s c ++ [ent g (fin g s c) x]
  | [], _, _ => rfl
  | y :: c, s, x => congrArg (s :: ·) (sts_snoc g c (ent g s y) x)
theorem sts_len (g : List (List Int)) : ∀ (c : List Int) (s : Int), (sts g s c).length = c.length + 1
  | [], _ => rfl
  | y :: c, s => congrArg (· + 1) (sts_len g c (ent g s y))
theorem sts_last (g : List (List Int)) : ∀ (c : List Int) (s : Int), (sts g s c)[c.length]? = some (fin g s c)
  | [], _ => rfl
  | y :: c, s => by
    show (s :: sts g (ent g s y) c)[c.length + 1]? = _
    rw [List.getElem?_cons_succ]
    exact sts_last g c (ent g s y)
theorem inB_iff {n : Nat} {x : Int} : inB n x = true ↔ 0 ≤ x ∧ x < n := by
  unfold inB
  simp only [Bool.and_eq_true, decide_eq_true_eq]
  omega
structure Lat (g : List (List Int)) : Prop where
  few : g.length ≤ 1000
  row : ∀ r ∈ g, r.length = g.length
  lat : latB g = true
theorem Good.toLat {g : List (List Int)} {s e : Int} (G : Good g s e) : Lat g := ⟨G.few, G.row, G.lat⟩
theorem Lat.row_at {g : List (List Int)} (G : Lat g) {s : Int} (h : inB g.length s = true) : ∃ r, g[s.toNat]? = some r ∧ g.getD s.toNat [] = r ∧ r.length = g.length ∧ r.all (inB g.length) = true := by
  obtain ⟨h1, h2⟩ := inB_iff.mp h
  have hs : s.toNat < g.length := by omega
  refine ⟨g[s.toNat], List.getElem?_eq_getElem hs, by rw [List.getD_eq_getElem?_getD, List.getElem?_eq_getElem hs]; rfl, G.row _ (List.getElem_mem hs), ?_⟩
  have := G.lat
  unfold latB at this
  simp only [Bool.and_eq_true, List.all_eq_true] at this
  have := this.1.2 _ (List.getElem_mem hs)
  unfold onceB rowB at this
  simp only [Bool.and_eq_true] at this
  exact this.1.2
theorem Lat.ent_in {g : List (List Int)} (G : Lat g) {s x : Int} (h : inB g.length s = true) (hx : inB g.length x = true) : inB g.length (ent g s x) = true := by
  obtain ⟨r, h1, h2, h3, h4⟩ := G.row_at h
  obtain ⟨h5, h6⟩ := inB_iff.mp hx
  unfold ent
  rw [h2, List.getD_eq_getElem?_getD, List.getElem?_eq_getElem (show x.toNat < r.length by omega)]
  rw [List.all_eq_true] at h4
  exact h4 _ (List.getElem_mem _)
theorem Lat.fin_in {g : List (List Int)} (G : Lat g) : ∀ {c : List Int} {s : Int}, inB g.length s = true → c.all (inB g.length) = true → inB g.length (fin g s c) = true
  | [], _, h, _ => h
  | x :: c, s, h, hc => by
    rw [List.all_cons, Bool.and_eq_true] at hc
    exact G.fin_in (c := c) (G.ent_in h hc.1) hc.2
theorem ixD_int {n : Nat} {i : Int} (h : inB n i = true) : ixD n i = some i.toNat := by
  obtain ⟨h1, h2⟩ := inB_iff.mp h
  unfold ixD
  rw [if_pos h1, if_pos h2]
theorem Lat.get1 {g : List (List Int)} (G : Lat g) {s : Int} (h : inB g.length s = true) : (g.map fun r => iL r)[s.toNat]? = some (iL (g.getD s.toNat [])) := by
  obtain ⟨r, h1, h2, _, _⟩ := G.row_at h
  rw [List.getElem?_map, h1, h2]; rfl
theorem Lat.get2 {g : List (List Int)} (G : Lat g) {s x : Int} (h : inB g.length s = true) (hx : inB g.length x = true) : ((g.getD s.toNat []).map PyData.int)[x.toNat]? = some (.int (ent g s x)) := by
  obtain ⟨r, h1, h2, h3, _⟩ := G.row_at h
  obtain ⟨h5, h6⟩ := inB_iff.mp hx
  unfold ent
  rw [h2, List.getElem?_map, List.getD_eq_getElem?_getD, List.getElem?_eq_getElem (show x.toNat < r.length by omega)]; rfl
theorem Lat.len1 {g : List (List Int)} (G : Lat g) {s : Int} (h : inB g.length s = true) : (g.getD s.toNat []).length = g.length := by
  obtain ⟨r, h1, h2, h3, _⟩ := G.row_at h
  rw [h2, h3]
theorem app_int (xs : List PyData) (v : Int) (h : xs.length ≤ 1000000) : appD [(0, .list xs)] (cel 0) [.int v] = some (.none, [(0, .list (xs ++ [.int v]))]) := by
  show (if xs.length < line then _ else _) = _
  rw [if_pos (lt_line h)]; rfl
theorem sts_get (g : List (List Int)) (s : Int) (code : List Int) : ((sts g s code).map PyData.int)[code.length]? = some (.int (fin g s code)) := by
  rw [List.getElem?_map, sts_last]; rfl
/-! ### the calls of the api -/
end K50
end
section
set_option Elab.async false
set_option linter.all false
set_option maxRecDepth 100000
set_option maxHeartbeats 4000000
namespace K50
open PySem TW
variable {W : Nat}
/-! ### lists without repeats -/
theorem dedup_len : ∀ (l acc : List Int), (l.foldl PyProof.Rows.step_dedup acc).length ≤ acc.length + l.length ∧ ((l.foldl PyProof.Rows.step_dedup acc).length = acc.length + l.length → l.Nodup ∧ ∀ x ∈ l, x ∉ acc)
  | [], acc => ⟨Nat.le_refl _, fun _ => ⟨.nil, by simp⟩⟩
  | x :: l, acc => by
    show (l.foldl PyProof.Rows.step_dedup (PyProof.Rows.step_dedup acc x)).length ≤ _ ∧ ((l.foldl PyProof.Rows.step_dedup (PyProof.Rows.step_dedup acc x)).length = _ → _)
    unfold PyProof.Rows.step_dedup
    rw [List.length_cons]
    split
    · obtain ⟨h1, h2⟩ := dedup_len l acc
      refine ⟨by unfold PyProof.Rows.step_dedup at h1; omega, fun h => ?_⟩
      unfold PyProof.Rows.step_dedup at h1
      omega
    · next hx =>
      obtain ⟨h1, h2⟩ := dedup_len l (acc ++ [x])
      unfold PyProof.Rows.step_dedup at h1 h2
      rw [List.length_append, List.length_singleton] at h1 h2
      refine ⟨by omega, fun h => ?_⟩
      obtain ⟨h3, h4⟩ := h2 (by omega)
      refine ⟨List.nodup_cons.mpr ⟨fun hm => h4 x hm (by simp), h3⟩, fun y hy => ?_⟩
      rcases List.mem_cons.mp hy with rfl | hy
      · intro hm
        apply hx
        simpa using hm
      · exact fun hm => h4 y hy (List.mem_append_left _ hm)
theorem getD_map (ns : List Int) : (List.range ns.length).map (fun i => ns.getD i 0) = ns := by
  apply List.ext_getElem
  · simp
  · intro i h1 h2
    rw [List.getElem_map, List.getElem_range, List.getD_eq_getElem?_getD, List.getElem?_eq_getElem h2]; rfl
theorem nodup_of_met {ns : List Int} (h : metD ns = ns.length) : ns.Nodup := by
  unfold metD PyProof.Rows.firstMet at h
  rw [getD_map] at h
  exact ((dedup_len ns []).2 (by simpa using h)).1
theorem pig : ∀ (l m : List Int), l.Nodup → (∀ x ∈ l, x ∈ m) → l.length ≤ m.length
  | [], _, _, _ => Nat.zero_le _
  | x :: l, m, nd, h => by
    have hx := h x (List.mem_cons_self ..)
    obtain ⟨n1, n2⟩ := List.nodup_cons.mp nd
    have := pig l (m.erase x) n2 fun y hy => (List.mem_erase_of_ne (fun (e : y = x) => n1 (by rw [← e]; exact hy))).mpr (h y (List.mem_cons_of_mem _ hy))
    rw [List.length_erase_of_mem hx] at this
    have : 0 < m.length := List.length_pos_of_mem hx
    rw [List.length_cons]
    omega
theorem all_met {n : Nat} {l : List Int} (nd : l.Nodup) (hl : l.length = n) (hin : l.all (inB n) = true) {y : Int} (hy : inB n y = true) : y ∈ l := by
  by_cases h : y ∈ l
  · exact h
  · exfalso
    let m := (List.range n).map fun (i : Nat) => (i : Int)
    have hm : ∀ x, inB n x = true → x ∈ m := fun x hx => by
      obtain ⟨h1, h2⟩ := inB_iff.mp hx
      exact List.mem_map.mpr ⟨x.toNat, List.mem_range.mpr (by omega), by omega⟩
    have := pig l (m.erase y) nd fun x hx => (List.mem_erase_of_ne (fun (e : x = y) => h (by rw [← e]; exact hx))).mpr (hm x (by rw [List.all_eq_true] at hin; exact hin x hx))
    rw [List.length_erase_of_mem (hm y hy)] at this
    have h3 : m.length = n := by simp [m]
    have h4 : 0 < m.length := List.length_pos_of_mem (hm y hy)
    omega
theorem once_facts {n : Nat} {ns : List Int} (h : onceB n ns = true) : ns.length = n ∧ ns.all (inB n) = true ∧ ns.Nodup := by
  unfold onceB rowB at h
  simp only [Bool.and_eq_true, decide_eq_true_eq] at h
  exact ⟨h.1.1, h.1.2, nodup_of_met (by rw [h.2, h.1.1])⟩
/-! ### index -/
theorem find_int : ∀ (ns : List Int) (e : Int), e ∈ ns → ∃ j, findD (.int e) (ns.map .int) = some j ∧ ns[j]? = some e
  | n :: ns, e, h => by
    show ∃ j, (if PyData.eqv (.int n) (.int e) then some 0 else (findD (.int e) (ns.map .int)).map (· + 1)) = some j ∧ _
    by_cases hn : n = e
    · subst hn
      exact ⟨0, by rw [if_pos (by show (n == n) = true; simp)], rfl⟩
    · have hm : e ∈ ns := (List.mem_cons.mp h).resolve_left (fun q => hn q.symm)
      obtain ⟨j, h1, h2⟩ := find_int ns e hm
      refine ⟨j + 1, ?_, by simpa using h2⟩
      rw [if_neg (by show ¬ (n == e) = true; simpa using hn), h1]; rfl
theorem index_int {ns : List Int} {e : Int} (h : e ∈ ns) (S : Sto) : ∃ j : Nat, indexD S (iL ns) [.int e] = some (.int j, S) ∧ ns[j]? = some e := by
  obtain ⟨j, h1, h2⟩ := find_int ns e h
  refine ⟨j, ?_, h2⟩
  show (if SeqAt.shaped (iL ns) && SeqAt.shaped (.int e) then _ else _) = _
  rw [shaped_ints, show SeqAt.shaped (.int e) = true from rfl]
  simp only [Bool.and_self, if_true, h1, Option.map_some]
theorem nodup_at {l : List Int} (nd : l.Nodup) {i j : Nat} {a : Int} (h1 : l[i]? = some a) (h2 : l[j]? = some a) : i = j := by
  obtain ⟨hi, e1⟩ := List.getElem?_eq_some_iff.mp h1
  obtain ⟨hj, e2⟩ := List.getElem?_eq_some_iff.mp h2
  have e := e1.trans e2.symm
  by_cases lt : i < j
  · exact absurd e (List.pairwise_iff_getElem.mp nd i j hi hj lt)
  · by_cases lt2 : j < i
    · exact absurd e.symm (List.pairwise_iff_getElem.mp nd j i hj hi lt2)
    · omega
/-! ### rows and columns of a right square -/
theorem Lat.rowL {g : List (List Int)} (G : Lat g) {s : Int} (h : inB g.length s = true) : onceB g.length (g.getD s.toNat []) = true := by
  obtain ⟨r, h1, h2, _, _⟩ := G.row_at h
  have := G.lat
  unfold latB at this
  simp only [Bool.and_eq_true, List.all_eq_true] at this
  rw [h2]
  exact this.1.2 _ (List.mem_of_getElem? h1)
theorem Lat.colL {g : List (List Int)} (G : Lat g) {x : Int} (h : inB g.length x = true) : onceB g.length (colB g x.toNat) = true := by
  obtain ⟨h1, h2⟩ := inB_iff.mp h
  have := G.lat
  unfold latB at this
  simp only [Bool.and_eq_true, List.all_eq_true] at this
  exact this.2 _ (List.mem_range.mpr (by omega))
theorem Lat.col_at {g : List (List Int)} (G : Lat g) {s x : Int} (hs : inB g.length s = true) : (colB g x.toNat)[s.toNat]? = some (ent g s x) := by
  obtain ⟨r, h1, h2, _, _⟩ := G.row_at hs
  unfold colB ent
  rw [List.getElem?_map, h1, h2]; rfl
theorem Lat.row_get {g : List (List Int)} (G : Lat g) {s x : Int} (hs : inB g.length s = true) (hx : inB g.length x = true) : (g.getD s.toNat [])[x.toNat]? = some (ent g s x) := by
  obtain ⟨r, h1, h2, h3, _⟩ := G.row_at hs
  obtain ⟨h5, h6⟩ := inB_iff.mp hx
  unfold ent
  rw [List.getD_eq_getElem?_getD (l := g.getD s.toNat []), h2, List.getElem?_eq_getElem (show x.toNat < r.length by omega)]; rfl
theorem Lat.rinj {g : List (List Int)} (G : Lat g) {s x y : Int} (hs : inB g.length s = true) (hx : inB g.length x = true) (hy : inB g.length y = true) (h : ent g s x = ent g s y) : x = y := by
  have := nodup_at (once_facts (G.rowL hs)).2.2 (G.row_get hs hx) (h ▸ G.row_get hs hy)
  obtain ⟨h1, _⟩ := inB_iff.mp hx
  obtain ⟨h2, _⟩ := inB_iff.mp hy
  omega
theorem Lat.cinj {g : List (List Int)} (G : Lat g) {s t x : Int} (hs : inB g.length s = true) (ht : inB g.length t = true) (hx : inB g.length x = true) (h : ent g s x = ent g t x) : s = t := by
  have := nodup_at (once_facts (G.colL hx)).2.2 (G.col_at (x := x) hs) (h ▸ G.col_at (x := x) ht)
  obtain ⟨h1, _⟩ := inB_iff.mp hs
  obtain ⟨h2, _⟩ := inB_iff.mp ht
  omega
theorem Lat.fin_inj {g : List (List Int)} (G : Lat g) : ∀ {c : List Int} {s t : Int}, inB g.length s = true → inB g.length t = true → c.all (inB g.length) = true → fin g s c = fin g t c → s = t
  | [], _, _, _, _, _, h => h
  | x :: c, s, t, hs, ht, hc, h => by
    rw [List.all_cons, Bool.and_eq_true] at hc
    exact G.cinj hs ht hc.1 (G.fin_inj (c := c) (G.ent_in hs hc.1) (G.ent_in ht hc.1) hc.2 h)
/-- the place's sign is the only one -/
theorem Lat.only {g : List (List Int)} (G : Lat g) {s x y : Int} {p q : List Int} (hs : inB g.length s = true) (hp : p.all (inB g.length) = true) (hq : q.all (inB g.length) = true) (hx : inB g.length x = true) (hy : inB g.length y = true)
    (h : fin g s (p ++ x :: q) = fin g s (p ++ y :: q)) : x = y := by
  rw [fin_app, fin_app] at h
  have hf := G.fin_in hs hp
  exact G.rinj hf hx hy (G.fin_inj (G.ent_in hf hx) (G.ent_in hf hy) hq h)
end K50
end
section
set_option Elab.async false
set_option linter.all false
set_option maxRecDepth 100000
set_option maxHeartbeats 4000000
namespace K50
open PySem TW
variable {W : Nat}
/-! ### sign_at -/
theorem index_col {g : List (List Int)} (G : Lat g) {x e : Int} (hx : inB g.length x = true) (he : inB g.length e = true) (S : Sto) : ∃ s : Int, indexD S (iL (colB g x.toNat)) [.int e] = some (.int s, S) ∧ inB g.length s = true ∧ ent g s x = e := by
  obtain ⟨o1, o2, o3⟩ := once_facts (G.colL hx)
  obtain ⟨j, h1, h2⟩ := index_int (all_met o3 o1 o2 he) S
  have hj : j < g.length := by rw [← o1]; exact (List.getElem?_eq_some_iff.mp h2).1
  have hs : inB g.length (j : Int) = true := inB_iff.mpr ⟨by omega, by omega⟩
  refine ⟨j, h1, hs, ?_⟩
  have := G.col_at (x := x) hs
  rw [Int.toNat_natCast, h2] at this
  exact (Option.some.inj this).symm
theorem index_row {g : List (List Int)} (G : Lat g) {s e : Int} (hs : inB g.length s = true) (he : inB g.length e = true) (S : Sto) : ∃ x : Int, indexD S (iL (g.getD s.toNat [])) [.int e] = some (.int x, S) ∧ inB g.length x = true ∧ ent g s x = e := by
  obtain ⟨o1, o2, o3⟩ := once_facts (G.rowL hs)
  obtain ⟨j, h1, h2⟩ := index_int (all_met o3 o1 o2 he) S
  have hj : j < g.length := by rw [← o1]; exact (List.getElem?_eq_some_iff.mp h2).1
  have hx : inB g.length (j : Int) = true := inB_iff.mpr ⟨by omega, by omega⟩
  refine ⟨j, h1, hx, ?_⟩
  have := G.row_get hs hx
  rw [Int.toNat_natCast, h2] at this
  exact (Option.some.inj this).symm
theorem slr_int (ns : List Int) (h : Nat) (hh : h < 2 ^ 62) : slrD (iL ns) (some (.int h)) = some (iL (ns.drop (h + 1)).reverse) := by
  have e : (decide (0 ≤ (h : Int)) && decide ((h : Int) < 2 ^ 62)) = true := by
    simp only [Bool.and_eq_true, decide_eq_true_eq]
    omega
  simp only [slrD, e, if_true, Int.toNat_natCast]
  rw [← List.map_drop, ← List.map_reverse]
theorem sl_upto (ns : List Int) (h : Nat) (hh : h ≤ ns.length) : slD (iL ns) none (some (.int h)) = some (iL (ns.take h)) := by
  show some (PyData.list (cutD (ns.map .int) none (some (h : Int)))) = _
  unfold cutD
  rw [show HT.sIx (ns.map PyData.int).length 0 none = 0 from rfl, HT.sIx_nat, List.length_map, Nat.min_eq_left hh, List.drop_zero, Nat.sub_zero, ← List.map_take]
end K50
end
section
set_option Elab.async false
set_option linter.all false
set_option maxRecDepth 100000
set_option maxHeartbeats 4000000
namespace K50
open PySem TW
variable {W : Nat}
/-! ### powers -/
theorem small_of {i : Int} (h0 : 0 ≤ i) (h : i < 2 ^ 64) : small64 i = true := decide_eq_true (by omega)
theorem mulOk_r {i j : Int} (h : small64 j = true) : mulOk i j = true := by
  unfold mulOk
  rw [h]; simp
theorem mulOk_l {i j : Int} (h : small64 i = true) : mulOk i j = true := by
  unfold mulOk
  rw [h]; simp
theorem cl_times (k n m : Nat) (hn : n ≤ 1000) (hm : m ≤ 1000) (S : Sto) : callD (evC tb W (k + 1)) i_times_over [.int n, .int m] S = some (.int ((n : Int) ^ m), S) :=
  callD_plain rfl (by
    rw [evC_run (fn := f_times_over) rfl rfl]
    obtain ⟨env', S', h1, w, h2, h3⟩ := forLoop_ind (tg := .var 3) (g := fun (i : Nat) => PyData.int i) (body := bodyF tb (evC tb W k) W 0 (.cons (.asg (.var 2) (.bin .mul (.var 2) (.var 0))) .nil))
      (fun i env S => ∃ w, env = [some (.int n), some (.int m), some (.int ((n : Int) ^ i)), w] ∧ S = []) (List.range m)
      (env := [some (.int n), some (.int m), some (.int 1), none]) (S := []) ⟨none, rfl, rfl⟩ (by
        rintro i x env S hx ⟨w, rfl, rfl⟩
        have hm := mulOk_r (i := (n : Int) ^ i) (small_of (i := (n : Int)) (by omega) (by omega))
        have e : (n : Int) ^ i * n = (n : Int) ^ (i + 1) := (Int.pow_succ _ _).symm
        refine ⟨[some (.int n), some (.int m), some (.int ((n : Int) ^ i)), some (.int x)], [some (.int n), some (.int m), some (.int ((n : Int) ^ (i + 1))), some (.int x)], [], ?_, .inl ?_, ⟨some (.int x), rfl, rfl⟩⟩
        · simp -implicitDefEqProofs only [bnd_some, bnd_none, mpd_some, mpd_none, cnd_true, cnd_false, e_var, vl_int, vl_bool, vl_none, vl_str, vl_list, vl_tuple, vl_edict, vl_cel, vl_scr, e_int, e_str, e_bl, e_non, e_edict, e_bin, e_neg, e_cmp, e_chain, e_and, e_or, e_not, e_ite, e_tup, e_lst, e_call, e_callk, e_bi, e_mt, e_idx, e_sl, e_slr, e_lc, e_thaw, e_lrng, l_nil, l_cons, o_nil, o_cons, t_nil, t_cons, i_rng, i_cons, s_asg, s_asgm, s_asgi, s_par, s_ex, s_ret, s_retm, s_retn, s_iff, s_forr, s_whl, s_pas, s_brk, s_cnt, b_nil, b_cons, th_nx, th_rt, th_bk, th_ct, List.getElem?_cons_zero, List.getElem?_cons_succ, List.map_cons, List.map_nil, List.cons_append, List.nil_append, List.replicate_succ, List.replicate_zero, if_true, if_false, Bool.false_eq_true, Bool.not_true, Bool.not_false, peek_int, peek_bool, peek_none, peek_str, peek_list, peek_tuple, peek_edict, peek_cel, settle_int, settle_bool, settle_none, settle_str, settle_list, settle_tuple, settle_edict, isTrueD_bool, biD, one, two, kindB, tyD, lenD, intOfD, iiD, sumD, listD, tupleD, binD, addD_int, subD, mulD_int, intD, cmpD, cmpI, isD, isNon, eqD_int, eqD_str, outD_rt, outD_rtt, outD_nx, bindT, List.set_cons_zero, List.set_cons_succ, wipeE, frE, celOf_int, celOf_bool, celOf_none, celOf_str, celOf_list, celOf_tuple, celOf_edict, celOf_cel, Option.isNone_none, Option.isNone_some, Bool.and_true, Bool.true_and, Bool.and_false, Bool.false_and, Bool.or_true, Bool.true_or, Bool.or_false, Bool.false_or, beginD_list, beginD_tuple, unlock_none, unlockO, idxD_list, idxD_tuple, setsE, decide_true, decide_false, List.take_nil, List.length_nil, List.length_cons, mtD, List.set_nil, List.getElem?_nil, Nat.zero_add, decide_eq_true_eq, sb_nil, sb_t, sb_f, sb_e, sa_nil, sa_cons, Nat.reduceSub, Nat.reduceLT, Nat.reduceAdd, Nat.reduceMul, Nat.reduceLeDiff, cnd_and, cnd_or, Option.bind_some, Option.map_some, Option.bind_none, Option.map_none, List.length_map, reduceCtorEq, beq_self_eq_true, eqD_nil, line, Nat.zero_le, ixD_0, ixD_1, ixD_2, ixD_last, Int.reduceEq, Int.reduceLT, Int.reduceLE, Int.reduceNeg, Int.reduceAdd, Int.reduceSub, Int.reduceMul, Nat.reduceEqDiff, Int.cast_ofNat_Int, List.getD_cons_zero, List.getD_cons_succ]
        · simp -implicitDefEqProofs only [bodyF, bnd_some, bnd_none, mpd_some, mpd_none, cnd_true, cnd_false, e_var, vl_int, vl_bool, vl_none, vl_str, vl_list, vl_tuple, vl_edict, vl_cel, vl_scr, e_int, e_str, e_bl, e_non, e_edict, e_bin, e_neg, e_cmp, e_chain, e_and, e_or, e_not, e_ite, e_tup, e_lst, e_call, e_callk, e_bi, e_mt, e_idx, e_sl, e_slr, e_lc, e_thaw, e_lrng, l_nil, l_cons, o_nil, o_cons, t_nil, t_cons, i_rng, i_cons, s_asg, s_asgm, s_asgi, s_par, s_ex, s_ret, s_retm, s_retn, s_iff, s_forr, s_whl, s_pas, s_brk, s_cnt, b_nil, b_cons, th_nx, th_rt, th_bk, th_ct, List.getElem?_cons_zero, List.getElem?_cons_succ, List.map_cons, List.map_nil, List.cons_append, List.nil_append, List.replicate_succ, List.replicate_zero, if_true, if_false, Bool.false_eq_true, Bool.not_true, Bool.not_false, peek_int, peek_bool, peek_none, peek_str, peek_list, peek_tuple, peek_edict, peek_cel, settle_int, settle_bool, settle_none, settle_str, settle_list, settle_tuple, settle_edict, isTrueD_bool, biD, one, two, kindB, tyD, lenD, intOfD, iiD, sumD, listD, tupleD, binD, addD_int, subD, mulD_int, intD, cmpD, cmpI, isD, isNon, eqD_int, eqD_str, outD_rt, outD_rtt, outD_nx, bindT, List.set_cons_zero, List.set_cons_succ, wipeE, frE, celOf_int, celOf_bool, celOf_none, celOf_str, celOf_list, celOf_tuple, celOf_edict, celOf_cel, Option.isNone_none, Option.isNone_some, Bool.and_true, Bool.true_and, Bool.and_false, Bool.false_and, Bool.or_true, Bool.true_or, Bool.or_false, Bool.false_or, beginD_list, beginD_tuple, unlock_none, unlockO, idxD_list, idxD_tuple, setsE, decide_true, decide_false, List.take_nil, List.length_nil, List.length_cons, mtD, List.set_nil, List.getElem?_nil, Nat.zero_add, decide_eq_true_eq, sb_nil, sb_t, sb_f, sb_e, sa_nil, sa_cons, Nat.reduceSub, Nat.reduceLT, Nat.reduceAdd, Nat.reduceMul, Nat.reduceLeDiff, cnd_and, cnd_or, Option.bind_some, Option.map_some, Option.bind_none, Option.map_none, List.length_map, reduceCtorEq, beq_self_eq_true, eqD_nil, line, Nat.zero_le, ixD_0, ixD_1, ixD_2, ixD_last, Int.reduceEq, Int.reduceLT, Int.reduceLE, Int.reduceNeg, Int.reduceAdd, Int.reduceSub, Int.reduceMul, Nat.reduceEqDiff, Int.cast_ofNat_Int, List.getD_cons_zero, List.getD_cons_succ, hm, e])
    subst h2 h3
    rw [List.length_range] at h1
    simp -implicitDefEqProofs only [bnd_some, bnd_none, mpd_some, mpd_none, cnd_true, cnd_false, e_var, vl_int, vl_bool, vl_none, vl_str, vl_list, vl_tuple, vl_edict, vl_cel, vl_scr, e_int, e_str, e_bl, e_non, e_edict, e_bin, e_neg, e_cmp, e_chain, e_and, e_or, e_not, e_ite, e_tup, e_lst, e_call, e_callk, e_bi, e_mt, e_idx, e_sl, e_slr, e_lc, e_thaw, e_lrng, l_nil, l_cons, o_nil, o_cons, t_nil, t_cons, i_rng, i_cons, s_asg, s_asgm, s_asgi, s_par, s_ex, s_ret, s_retm, s_retn, s_iff, s_forr, s_whl, s_pas, s_brk, s_cnt, b_nil, b_cons, th_nx, th_rt, th_bk, th_ct, List.getElem?_cons_zero, List.getElem?_cons_succ, List.map_cons, List.map_nil, List.cons_append, List.nil_append, List.replicate_succ, List.replicate_zero, if_true, if_false, Bool.false_eq_true, Bool.not_true, Bool.not_false, peek_int, peek_bool, peek_none, peek_str, peek_list, peek_tuple, peek_edict, peek_cel, settle_int, settle_bool, settle_none, settle_str, settle_list, settle_tuple, settle_edict, isTrueD_bool, biD, one, two, kindB, tyD, lenD, intOfD, iiD, sumD, listD, tupleD, binD, addD_int, subD, mulD_int, intD, cmpD, cmpI, isD, isNon, eqD_int, eqD_str, outD_rt, outD_rtt, outD_nx, bindT, List.set_cons_zero, List.set_cons_succ, wipeE, frE, celOf_int, celOf_bool, celOf_none, celOf_str, celOf_list, celOf_tuple, celOf_edict, celOf_cel, Option.isNone_none, Option.isNone_some, Bool.and_true, Bool.true_and, Bool.and_false, Bool.false_and, Bool.or_true, Bool.true_or, Bool.or_false, Bool.false_or, beginD_list, beginD_tuple, unlock_none, unlockO, idxD_list, idxD_tuple, setsE, decide_true, decide_false, List.take_nil, List.length_nil, List.length_cons, mtD, List.set_nil, List.getElem?_nil, Nat.zero_add, decide_eq_true_eq, sb_nil, sb_t, sb_f, sb_e, sa_nil, sa_cons, Nat.reduceSub, Nat.reduceLT, Nat.reduceAdd, Nat.reduceMul, Nat.reduceLeDiff, cnd_and, cnd_or, Option.bind_some, Option.map_some, Option.bind_none, Option.map_none, List.length_map, reduceCtorEq, beq_self_eq_true, eqD_nil, line, Nat.zero_le, ixD_0, ixD_1, ixD_2, ixD_last, Int.reduceEq, Int.reduceLT, Int.reduceLE, Int.reduceNeg, Int.reduceAdd, Int.reduceSub, Int.reduceMul, Nat.reduceEqDiff, Int.cast_ofNat_Int, List.getD_cons_zero, List.getD_cons_succ, t_times_over, rngD_one (show m < 2 ^ 62 by omega), h1])
theorem cl_power (k n m : Nat) (hn : n ≤ 1000) (hm : m ≤ 1000) (S : Sto) : callD (evC tb W (k + 1)) i_law_power [.int n, .int m] S = some (.int ((n : Int) ^ m), S) :=
  callD_plain rfl (by
    rw [evC_run (fn := f_law_power) rfl rfl]
    obtain ⟨env', S', h1, w, h2, h3⟩ := forLoop_ind (tg := .var 3) (g := fun (i : Nat) => PyData.int i) (body := bodyF tb (evC tb W k) W 0 (.cons (.asg (.var 2) (.bin .mul (.var 2) (.var 0))) .nil))
      (fun i env S => ∃ w, env = [some (.int n), some (.int m), some (.int ((n : Int) ^ i)), w] ∧ S = []) (List.range m)
      (env := [some (.int n), some (.int m), some (.int 1), none]) (S := []) ⟨none, rfl, rfl⟩ (by
        rintro i x env S hx ⟨w, rfl, rfl⟩
        have hm := mulOk_r (i := (n : Int) ^ i) (small_of (i := (n : Int)) (by omega) (by omega))
        have e : (n : Int) ^ i * n = (n : Int) ^ (i + 1) := (Int.pow_succ _ _).symm
        refine ⟨[some (.int n), some (.int m), some (.int ((n : Int) ^ i)), some (.int x)], [some (.int n), some (.int m), some (.int ((n : Int) ^ (i + 1))), some (.int x)], [], ?_, .inl ?_, ⟨some (.int x), rfl, rfl⟩⟩
        · simp -implicitDefEqProofs only [bnd_some, bnd_none, mpd_some, mpd_none, cnd_true, cnd_false, e_var, vl_int, vl_bool, vl_none, vl_str, vl_list, vl_tuple, vl_edict, vl_cel, vl_scr, e_int, e_str, e_bl, e_non, e_edict, e_bin, e_neg, e_cmp, e_chain, e_and, e_or, e_not, e_ite, e_tup, e_lst, e_call, e_callk, e_bi, e_mt, e_idx, e_sl, e_slr, e_lc, e_thaw, e_lrng, l_nil, l_cons, o_nil, o_cons, t_nil, t_cons, i_rng, i_cons, s_asg, s_asgm, s_asgi, s_par, s_ex, s_ret, s_retm, s_retn, s_iff, s_forr, s_whl, s_pas, s_brk, s_cnt, b_nil, b_cons, th_nx, th_rt, th_bk, th_ct, List.getElem?_cons_zero, List.getElem?_cons_succ, List.map_cons, List.map_nil, List.cons_append, List.nil_append, List.replicate_succ, List.replicate_zero, if_true, if_false, Bool.false_eq_true, Bool.not_true, Bool.not_false, peek_int, peek_bool, peek_none, peek_str, peek_list, peek_tuple, peek_edict, peek_cel, settle_int, settle_bool, settle_none, settle_str, settle_list, settle_tuple, settle_edict, isTrueD_bool, biD, one, two, kindB, tyD, lenD, intOfD, iiD, sumD, listD, tupleD, binD, addD_int, subD, mulD_int, intD, cmpD, cmpI, isD, isNon, eqD_int, eqD_str, outD_rt, outD_rtt, outD_nx, bindT, List.set_cons_zero, List.set_cons_succ, wipeE, frE, celOf_int, celOf_bool, celOf_none, celOf_str, celOf_list, celOf_tuple, celOf_edict, celOf_cel, Option.isNone_none, Option.isNone_some, Bool.and_true, Bool.true_and, Bool.and_false, Bool.false_and, Bool.or_true, Bool.true_or, Bool.or_false, Bool.false_or, beginD_list, beginD_tuple, unlock_none, unlockO, idxD_list, idxD_tuple, setsE, decide_true, decide_false, List.take_nil, List.length_nil, List.length_cons, mtD, List.set_nil, List.getElem?_nil, Nat.zero_add, decide_eq_true_eq, sb_nil, sb_t, sb_f, sb_e, sa_nil, sa_cons, Nat.reduceSub, Nat.reduceLT, Nat.reduceAdd, Nat.reduceMul, Nat.reduceLeDiff, cnd_and, cnd_or, Option.bind_some, Option.map_some, Option.bind_none, Option.map_none, List.length_map, reduceCtorEq, beq_self_eq_true, eqD_nil, line, Nat.zero_le, ixD_0, ixD_1, ixD_2, ixD_last, Int.reduceEq, Int.reduceLT, Int.reduceLE, Int.reduceNeg, Int.reduceAdd, Int.reduceSub, Int.reduceMul, Nat.reduceEqDiff, Int.cast_ofNat_Int, List.getD_cons_zero, List.getD_cons_succ]
        · simp -implicitDefEqProofs only [bodyF, bnd_some, bnd_none, mpd_some, mpd_none, cnd_true, cnd_false, e_var, vl_int, vl_bool, vl_none, vl_str, vl_list, vl_tuple, vl_edict, vl_cel, vl_scr, e_int, e_str, e_bl, e_non, e_edict, e_bin, e_neg, e_cmp, e_chain, e_and, e_or, e_not, e_ite, e_tup, e_lst, e_call, e_callk, e_bi, e_mt, e_idx, e_sl, e_slr, e_lc, e_thaw, e_lrng, l_nil, l_cons, o_nil, o_cons, t_nil, t_cons, i_rng, i_cons, s_asg, s_asgm, s_asgi, s_par, s_ex, s_ret, s_retm, s_retn, s_iff, s_forr, s_whl, s_pas, s_brk, s_cnt, b_nil, b_cons, th_nx, th_rt, th_bk, th_ct, List.getElem?_cons_zero, List.getElem?_cons_succ, List.map_cons, List.map_nil, List.cons_append, List.nil_append, List.replicate_succ, List.replicate_zero, if_true, if_false, Bool.false_eq_true, Bool.not_true, Bool.not_false, peek_int, peek_bool, peek_none, peek_str, peek_list, peek_tuple, peek_edict, peek_cel, settle_int, settle_bool, settle_none, settle_str, settle_list, settle_tuple, settle_edict, isTrueD_bool, biD, one, two, kindB, tyD, lenD, intOfD, iiD, sumD, listD, tupleD, binD, addD_int, subD, mulD_int, intD, cmpD, cmpI, isD, isNon, eqD_int, eqD_str, outD_rt, outD_rtt, outD_nx, bindT, List.set_cons_zero, List.set_cons_succ, wipeE, frE, celOf_int, celOf_bool, celOf_none, celOf_str, celOf_list, celOf_tuple, celOf_edict, celOf_cel, Option.isNone_none, Option.isNone_some, Bool.and_true, Bool.true_and, Bool.and_false, Bool.false_and, Bool.or_true, Bool.true_or, Bool.or_false, Bool.false_or, beginD_list, beginD_tuple, unlock_none, unlockO, idxD_list, idxD_tuple, setsE, decide_true, decide_false, List.take_nil, List.length_nil, List.length_cons, mtD, List.set_nil, List.getElem?_nil, Nat.zero_add, decide_eq_true_eq, sb_nil, sb_t, sb_f, sb_e, sa_nil, sa_cons, Nat.reduceSub, Nat.reduceLT, Nat.reduceAdd, Nat.reduceMul, Nat.reduceLeDiff, cnd_and, cnd_or, Option.bind_some, Option.map_some, Option.bind_none, Option.map_none, List.length_map, reduceCtorEq, beq_self_eq_true, eqD_nil, line, Nat.zero_le, ixD_0, ixD_1, ixD_2, ixD_last, Int.reduceEq, Int.reduceLT, Int.reduceLE, Int.reduceNeg, Int.reduceAdd, Int.reduceSub, Int.reduceMul, Nat.reduceEqDiff, Int.cast_ofNat_Int, List.getD_cons_zero, List.getD_cons_succ, hm, e])
    subst h2 h3
    rw [List.length_range] at h1
    simp -implicitDefEqProofs only [bnd_some, bnd_none, mpd_some, mpd_none, cnd_true, cnd_false, e_var, vl_int, vl_bool, vl_none, vl_str, vl_list, vl_tuple, vl_edict, vl_cel, vl_scr, e_int, e_str, e_bl, e_non, e_edict, e_bin, e_neg, e_cmp, e_chain, e_and, e_or, e_not, e_ite, e_tup, e_lst, e_call, e_callk, e_bi, e_mt, e_idx, e_sl, e_slr, e_lc, e_thaw, e_lrng, l_nil, l_cons, o_nil, o_cons, t_nil, t_cons, i_rng, i_cons, s_asg, s_asgm, s_asgi, s_par, s_ex, s_ret, s_retm, s_retn, s_iff, s_forr, s_whl, s_pas, s_brk, s_cnt, b_nil, b_cons, th_nx, th_rt, th_bk, th_ct, List.getElem?_cons_zero, List.getElem?_cons_succ, List.map_cons, List.map_nil, List.cons_append, List.nil_append, List.replicate_succ, List.replicate_zero, if_true, if_false, Bool.false_eq_true, Bool.not_true, Bool.not_false, peek_int, peek_bool, peek_none, peek_str, peek_list, peek_tuple, peek_edict, peek_cel, settle_int, settle_bool, settle_none, settle_str, settle_list, settle_tuple, settle_edict, isTrueD_bool, biD, one, two, kindB, tyD, lenD, intOfD, iiD, sumD, listD, tupleD, binD, addD_int, subD, mulD_int, intD, cmpD, cmpI, isD, isNon, eqD_int, eqD_str, outD_rt, outD_rtt, outD_nx, bindT, List.set_cons_zero, List.set_cons_succ, wipeE, frE, celOf_int, celOf_bool, celOf_none, celOf_str, celOf_list, celOf_tuple, celOf_edict, celOf_cel, Option.isNone_none, Option.isNone_some, Bool.and_true, Bool.true_and, Bool.and_false, Bool.false_and, Bool.or_true, Bool.true_or, Bool.or_false, Bool.false_or, beginD_list, beginD_tuple, unlock_none, unlockO, idxD_list, idxD_tuple, setsE, decide_true, decide_false, List.take_nil, List.length_nil, List.length_cons, mtD, List.set_nil, List.getElem?_nil, Nat.zero_add, decide_eq_true_eq, sb_nil, sb_t, sb_f, sb_e, sa_nil, sa_cons, Nat.reduceSub, Nat.reduceLT, Nat.reduceAdd, Nat.reduceMul, Nat.reduceLeDiff, cnd_and, cnd_or, Option.bind_some, Option.map_some, Option.bind_none, Option.map_none, List.length_map, reduceCtorEq, beq_self_eq_true, eqD_nil, line, Nat.zero_le, ixD_0, ixD_1, ixD_2, ixD_last, Int.reduceEq, Int.reduceLT, Int.reduceLE, Int.reduceNeg, Int.reduceAdd, Int.reduceSub, Int.reduceMul, Nat.reduceEqDiff, Int.cast_ofNat_Int, List.getD_cons_zero, List.getD_cons_succ, t_law_power, rngD_one (show m < 2 ^ 62 by omega), h1])
theorem cl_how_many {g : List (List Int)} {s e : Int} (G : Good g s e) (k m : Nat) (hm : m ≤ 900) (S : Sto) : callD (evC tb W (k + 8)) i_how_many_right_lists [chD g s e, .int ((m + 1 : Nat) : Int)] S = some (.int ((g.length : Int) ^ m), S) :=
  callD_plain rfl (by
    rw [evC_run (fn := f_how_many_right_lists) rfl rfl]
    have c1 := cl_check_chain (W := W) k (d := chD g s e) rfl rfl rfl (fun S => G.fits k S)
    have c2 := cl_check_number_up (W := W) (k + 4) ((m + 1 : Nat) : Int) 1 (by omega)
    have e1 : ((m + 1 : Nat) : Int) - 1 = (m : Int) := by omega
    have c3 := cl_times (W := W) (k + 6) g.length m G.few (by omega)
    simp -implicitDefEqProofs only [bnd_some, bnd_none, mpd_some, mpd_none, cnd_true, cnd_false, e_var, vl_int, vl_bool, vl_none, vl_str, vl_list, vl_tuple, vl_edict, vl_cel, vl_scr, e_int, e_str, e_bl, e_non, e_edict, e_bin, e_neg, e_cmp, e_chain, e_and, e_or, e_not, e_ite, e_tup, e_lst, e_call, e_callk, e_bi, e_mt, e_idx, e_sl, e_slr, e_lc, e_thaw, e_lrng, l_nil, l_cons, o_nil, o_cons, t_nil, t_cons, i_rng, i_cons, s_asg, s_asgm, s_asgi, s_par, s_ex, s_ret, s_retm, s_retn, s_iff, s_forr, s_whl, s_pas, s_brk, s_cnt, b_nil, b_cons, th_nx, th_rt, th_bk, th_ct, List.getElem?_cons_zero, List.getElem?_cons_succ, List.map_cons, List.map_nil, List.cons_append, List.nil_append, List.replicate_succ, List.replicate_zero, if_true, if_false, Bool.false_eq_true, Bool.not_true, Bool.not_false, peek_int, peek_bool, peek_none, peek_str, peek_list, peek_tuple, peek_edict, peek_cel, settle_int, settle_bool, settle_none, settle_str, settle_list, settle_tuple, settle_edict, isTrueD_bool, biD, one, two, kindB, tyD, lenD, intOfD, iiD, sumD, listD, tupleD, binD, addD_int, subD, mulD_int, intD, cmpD, cmpI, isD, isNon, eqD_int, eqD_str, outD_rt, outD_rtt, outD_nx, bindT, List.set_cons_zero, List.set_cons_succ, wipeE, frE, celOf_int, celOf_bool, celOf_none, celOf_str, celOf_list, celOf_tuple, celOf_edict, celOf_cel, Option.isNone_none, Option.isNone_some, Bool.and_true, Bool.true_and, Bool.and_false, Bool.false_and, Bool.or_true, Bool.true_or, Bool.or_false, Bool.false_or, beginD_list, beginD_tuple, unlock_none, unlockO, idxD_list, idxD_tuple, setsE, decide_true, decide_false, List.take_nil, List.length_nil, List.length_cons, mtD, List.set_nil, List.getElem?_nil, Nat.zero_add, decide_eq_true_eq, sb_nil, sb_t, sb_f, sb_e, sa_nil, sa_cons, Nat.reduceSub, Nat.reduceLT, Nat.reduceAdd, Nat.reduceMul, Nat.reduceLeDiff, cnd_and, cnd_or, Option.bind_some, Option.map_some, Option.bind_none, Option.map_none, List.length_map, reduceCtorEq, beq_self_eq_true, eqD_nil, line, Nat.zero_le, ixD_0, ixD_1, ixD_2, ixD_last, Int.reduceEq, Int.reduceLT, Int.reduceLE, Int.reduceNeg, Int.reduceAdd, Int.reduceSub, Int.reduceMul, Nat.reduceEqDiff, Int.cast_ofNat_Int, List.getD_cons_zero, List.getD_cons_succ, t_how_many_right_lists, c1, c2, e1, c3])
/-! ### what is drawn -/
theorem callD_one {F : Clf} {f i : Nat} {rest : List PyData} {S : Sto} {c c' : Cell} {d : PyData} (hp : plainD rest = true) (h : S[i]? = some c) (hF : F f (cel 0 :: rest) [c] = some (d, [c'])) : callD F f (cel i :: rest) S = some (d, S.set i c') := by
  have e : cellsOf (cel i :: rest) 0 = (cel 0 :: rest, [i]) := by
    unfold cellsOf
    rw [celOf_cel]
    simp only [cellsOf_plain (n := 0 + 1) hp]
  unfold callD
  rw [e]
  simp only [getAll, h, Option.bind_some, Option.map_some, hF, List.length_cons, List.length_nil, if_true, putAll]
  rw [if_pos (by simp)]
def hashI (s c : Int) : Int := (((s * 1140671 + 27644437 * c * c + 131 * c + 19) % 2147483629) * ((s * 1140671 + 27644437 * c * c + 131 * c + 19) % 2147483629) + 62089 * c + 32416187) % 2147483587 * 48271 % 2147483647
theorem cl_hash (k : Nat) (s c : Int) (hc0 : 0 ≤ c) (hc : c < 2 ^ 50) (S : Sto) : callD (evC tb W (k + 1)) i_law_hash [.int s, .int c] S = some (.int (hashI s c), S) :=
  callD_plain rfl (by
    rw [evC_run (fn := f_law_hash) rfl rfl]
    have m1 : mulOk s 1140671 = true := mulOk_r rfl
    have m2 : mulOk 27644437 c = true := mulOk_l rfl
    have m3 : mulOk (27644437 * c) c = true := mulOk_r (small_of hc0 (by omega))
    have m4 : mulOk 131 c = true := mulOk_l rfl
    have m5 : mulOk 62089 c = true := mulOk_l rfl
    have m6 : ∀ x : Int, mulOk (x % 2147483629) (x % 2147483629) = true := fun x => mulOk_r (small_of (by omega) (by omega))
    have m7 : ∀ x : Int, mulOk x 48271 = true := fun x => mulOk_r rfl
    simp -implicitDefEqProofs only [bnd_some, bnd_none, mpd_some, mpd_none, cnd_true, cnd_false, e_var, vl_int, vl_bool, vl_none, vl_str, vl_list, vl_tuple, vl_edict, vl_cel, vl_scr, e_int, e_str, e_bl, e_non, e_edict, e_bin, e_neg, e_cmp, e_chain, e_and, e_or, e_not, e_ite, e_tup, e_lst, e_call, e_callk, e_bi, e_mt, e_idx, e_sl, e_slr, e_lc, e_thaw, e_lrng, l_nil, l_cons, o_nil, o_cons, t_nil, t_cons, i_rng, i_cons, s_asg, s_asgm, s_asgi, s_par, s_ex, s_ret, s_retm, s_retn, s_iff, s_forr, s_whl, s_pas, s_brk, s_cnt, b_nil, b_cons, th_nx, th_rt, th_bk, th_ct, List.getElem?_cons_zero, List.getElem?_cons_succ, List.map_cons, List.map_nil, List.cons_append, List.nil_append, List.replicate_succ, List.replicate_zero, if_true, if_false, Bool.false_eq_true, Bool.not_true, Bool.not_false, peek_int, peek_bool, peek_none, peek_str, peek_list, peek_tuple, peek_edict, peek_cel, settle_int, settle_bool, settle_none, settle_str, settle_list, settle_tuple, settle_edict, isTrueD_bool, biD, one, two, kindB, tyD, lenD, intOfD, iiD, sumD, listD, tupleD, binD, addD_int, subD, mulD_int, intD, cmpD, cmpI, isD, isNon, eqD_int, eqD_str, outD_rt, outD_rtt, outD_nx, bindT, List.set_cons_zero, List.set_cons_succ, wipeE, frE, celOf_int, celOf_bool, celOf_none, celOf_str, celOf_list, celOf_tuple, celOf_edict, celOf_cel, Option.isNone_none, Option.isNone_some, Bool.and_true, Bool.true_and, Bool.and_false, Bool.false_and, Bool.or_true, Bool.true_or, Bool.or_false, Bool.false_or, beginD_list, beginD_tuple, unlock_none, unlockO, idxD_list, idxD_tuple, setsE, decide_true, decide_false, List.take_nil, List.length_nil, List.length_cons, mtD, List.set_nil, List.getElem?_nil, Nat.zero_add, decide_eq_true_eq, sb_nil, sb_t, sb_f, sb_e, sa_nil, sa_cons, Nat.reduceSub, Nat.reduceLT, Nat.reduceAdd, Nat.reduceMul, Nat.reduceLeDiff, cnd_and, cnd_or, Option.bind_some, Option.map_some, Option.bind_none, Option.map_none, List.length_map, reduceCtorEq, beq_self_eq_true, eqD_nil, line, Nat.zero_le, ixD_0, ixD_1, ixD_2, ixD_last, Int.reduceEq, Int.reduceLT, Int.reduceLE, Int.reduceNeg, Int.reduceAdd, Int.reduceSub, Int.reduceMul, Nat.reduceEqDiff, Int.cast_ofNat_Int, List.getD_cons_zero, List.getD_cons_succ, t_law_hash, m1, m2, m3, m4, m5, m6, m7]
    try rfl)
abbrev genD (a s c : Int) : PyData := .list [.int a, .int s, .int c]
def GenOk (n : Nat) (g : PyData) : Prop := ∃ a s c : Int, g = genD a s c ∧ 0 ≤ a ∧ 0 ≤ s ∧ s < 2 ^ 31 ∧ 0 ≤ c ∧ c ≤ n
theorem GenOk.mono {n m : Nat} {g : PyData} (h : GenOk n g) (hm : n ≤ m) : GenOk m g := by
  obtain ⟨a, s, c, h1, h2, h3, h4, h5, h6⟩ := h
  exact ⟨a, s, c, h1, h2, h3, h4, h5, by omega⟩
theorem for_one (tg : T) (body : Evn → Sto → Option Out) (x : PyData) (env : Evn) (S : Sto) : forLoop tg body [x] env S = bnd (bindT tg x env) (fun e1 => bnd (body e1 S) (fun o => match o with
    | .nx e2 S2 => some (.nx e2 S2)
    | .ct e2 S2 => some (.nx e2 S2)
    | .bk e2 S2 => some (.nx e2 S2)
    | .rt d f S2 => some (.rt d f S2)) ⟨⟩) ⟨⟩ := by
  show (bindT tg x env).bind _ = (bindT tg x env).bind _
  refine congrArg (Option.bind _) (funext fun e1 => ?_)
  show (body e1 S).bind _ = (body e1 S).bind _
  exact congrArg (Option.bind _) (funext fun o => by cases o <;> rfl)
theorem bits_small {l : Nat} (h : l ≤ 1000) : Builtin.Int.intBits (l : Int) < 30 := by
  unfold Builtin.Int.intBits
  have : (l : Int).natAbs.log2 < 10 := by
    rw [Int.natAbs_natCast]
    by_cases h0 : l = 0
    · subst h0; decide
    · exact (Nat.log2_lt h0).mpr (by omega)
  first
    | (split <;> omega)
    | omega
theorem ev_random (k : Nat) (a s c : Int) (l : Nat) (hl0 : 0 < l) (hl : l ≤ 1000) (ha : 0 ≤ a) (hc0 : 0 ≤ c) (hc : c < 2 ^ 40) :
    ∃ r a' c', evC tb W (k + 2) i_law_random [cel 0, .int l] [(0, genD a s c)] = some (.int r, [(0, genD a' s c')]) ∧ inB l r = true ∧ 0 ≤ a' ∧ 0 ≤ c' ∧ c' ≤ c + 1 := by
  rw [evC_run (fn := f_law_random) rfl rfl]
  have dv : divOk (l : Int) = true := by
    unfold divOk
    have : ((l : Int).natAbs).log2 < 9000 := by
      rw [Int.natAbs_natCast]
      exact Nat.lt_of_le_of_lt (Nat.log2_le_self l) (by omega)
    rw [decide_eq_true (show (0 : Int) < l by omega), decide_eq_true this]; rfl
  have hm : decide ((0 : Int) < (l : Int)) = true := decide_eq_true (by omega)
  by_cases h : 0 < a
  · have e1 : decide ((0 : Int) < a) = true := decide_eq_true h
    refine ⟨a % l, a / l, c, ?_, ?_, ?_, hc0, by omega⟩
    · simp -implicitDefEqProofs only [bnd_some, bnd_none, mpd_some, mpd_none, cnd_true, cnd_false, e_var, vl_int, vl_bool, vl_none, vl_str, vl_list, vl_tuple, vl_edict, vl_cel, vl_scr, e_int, e_str, e_bl, e_non, e_edict, e_bin, e_neg, e_cmp, e_chain, e_and, e_or, e_not, e_ite, e_tup, e_lst, e_call, e_callk, e_bi, e_mt, e_idx, e_sl, e_slr, e_lc, e_thaw, e_lrng, l_nil, l_cons, o_nil, o_cons, t_nil, t_cons, i_rng, i_cons, s_asg, s_asgm, s_asgi, s_par, s_ex, s_ret, s_retm, s_retn, s_iff, s_forr, s_whl, s_pas, s_brk, s_cnt, b_nil, b_cons, th_nx, th_rt, th_bk, th_ct, List.getElem?_cons_zero, List.getElem?_cons_succ, List.map_cons, List.map_nil, List.cons_append, List.nil_append, List.replicate_succ, List.replicate_zero, if_true, if_false, Bool.false_eq_true, Bool.not_true, Bool.not_false, peek_int, peek_bool, peek_none, peek_str, peek_list, peek_tuple, peek_edict, peek_cel, settle_int, settle_bool, settle_none, settle_str, settle_list, settle_tuple, settle_edict, isTrueD_bool, biD, one, two, kindB, tyD, lenD, intOfD, iiD, sumD, listD, tupleD, binD, addD_int, subD, mulD_int, intD, cmpD, cmpI, isD, isNon, eqD_int, eqD_str, outD_rt, outD_rtt, outD_nx, bindT, List.set_cons_zero, List.set_cons_succ, wipeE, frE, celOf_int, celOf_bool, celOf_none, celOf_str, celOf_list, celOf_tuple, celOf_edict, celOf_cel, Option.isNone_none, Option.isNone_some, Bool.and_true, Bool.true_and, Bool.and_false, Bool.false_and, Bool.or_true, Bool.true_or, Bool.or_false, Bool.false_or, beginD_list, beginD_tuple, unlock_none, unlockO, idxD_list, idxD_tuple, setsE, decide_true, decide_false, List.take_nil, List.length_nil, List.length_cons, mtD, List.set_nil, List.getElem?_nil, Nat.zero_add, decide_eq_true_eq, sb_nil, sb_t, sb_f, sb_e, sa_nil, sa_cons, Nat.reduceSub, Nat.reduceLT, Nat.reduceAdd, Nat.reduceMul, Nat.reduceLeDiff, cnd_and, cnd_or, Option.bind_some, Option.map_some, Option.bind_none, Option.map_none, List.length_map, reduceCtorEq, beq_self_eq_true, eqD_nil, line, Nat.zero_le, ixD_0, ixD_1, ixD_2, ixD_last, Int.reduceEq, Int.reduceLT, Int.reduceLE, Int.reduceNeg, Int.reduceAdd, Int.reduceSub, Int.reduceMul, Nat.reduceEqDiff, Int.cast_ofNat_Int, List.getD_cons_zero, List.getD_cons_succ, s_asgi, t_law_random, e1, dv, hm]
      rfl
    · exact inB_iff.mpr ⟨Int.emod_nonneg _ (by omega), Int.emod_lt_of_pos _ (by omega)⟩
    · exact Int.ediv_nonneg ha (by omega)
  · have e1 : decide ((0 : Int) < a) = false := decide_eq_false h
    have hb : ((Builtin.Int.intBits (l : Int) : Nat) : Int) / 30 = 0 := by
      have : Builtin.Int.intBits (l : Int) < 30 := bits_small hl
      omega
    have d30 : divOk 30 = true := rfl
    have r1 : rngD [.int 1] = some [.int 0] := rngD_one (j := 1) (by omega)
    have m0 : mulOk 0 2147483587 = true := rfl
    have hh := cl_hash (W := W) k s (c + 1) (by omega) (by omega)
    refine ⟨hashI s (c + 1) % l, a, c + 1, ?_, ?_, ha, by omega, by omega⟩
    · simp -implicitDefEqProofs only [bnd_some, bnd_none, mpd_some, mpd_none, cnd_true, cnd_false, e_var, vl_int, vl_bool, vl_none, vl_str, vl_list, vl_tuple, vl_edict, vl_cel, vl_scr, e_int, e_str, e_bl, e_non, e_edict, e_bin, e_neg, e_cmp, e_chain, e_and, e_or, e_not, e_ite, e_tup, e_lst, e_call, e_callk, e_bi, e_mt, e_idx, e_sl, e_slr, e_lc, e_thaw, e_lrng, l_nil, l_cons, o_nil, o_cons, t_nil, t_cons, i_rng, i_cons, s_asg, s_asgm, s_asgi, s_par, s_ex, s_ret, s_retm, s_retn, s_iff, s_forr, s_whl, s_pas, s_brk, s_cnt, b_nil, b_cons, th_nx, th_rt, th_bk, th_ct, List.getElem?_cons_zero, List.getElem?_cons_succ, List.map_cons, List.map_nil, List.cons_append, List.nil_append, List.replicate_succ, List.replicate_zero, if_true, if_false, Bool.false_eq_true, Bool.not_true, Bool.not_false, peek_int, peek_bool, peek_none, peek_str, peek_list, peek_tuple, peek_edict, peek_cel, settle_int, settle_bool, settle_none, settle_str, settle_list, settle_tuple, settle_edict, isTrueD_bool, biD, one, two, kindB, tyD, lenD, intOfD, iiD, sumD, listD, tupleD, binD, addD_int, subD, mulD_int, intD, cmpD, cmpI, isD, isNon, eqD_int, eqD_str, outD_rt, outD_rtt, outD_nx, bindT, List.set_cons_zero, List.set_cons_succ, wipeE, frE, celOf_int, celOf_bool, celOf_none, celOf_str, celOf_list, celOf_tuple, celOf_edict, celOf_cel, Option.isNone_none, Option.isNone_some, Bool.and_true, Bool.true_and, Bool.and_false, Bool.false_and, Bool.or_true, Bool.true_or, Bool.or_false, Bool.false_or, beginD_list, beginD_tuple, unlock_none, unlockO, idxD_list, idxD_tuple, setsE, decide_true, decide_false, List.take_nil, List.length_nil, List.length_cons, mtD, List.set_nil, List.getElem?_nil, Nat.zero_add, decide_eq_true_eq, sb_nil, sb_t, sb_f, sb_e, sa_nil, sa_cons, Nat.reduceSub, Nat.reduceLT, Nat.reduceAdd, Nat.reduceMul, Nat.reduceLeDiff, cnd_and, cnd_or, Option.bind_some, Option.map_some, Option.bind_none, Option.map_none, List.length_map, reduceCtorEq, beq_self_eq_true, eqD_nil, line, Nat.zero_le, ixD_0, ixD_1, ixD_2, ixD_last, Int.reduceEq, Int.reduceLT, Int.reduceLE, Int.reduceNeg, Int.reduceAdd, Int.reduceSub, Int.reduceMul, Nat.reduceEqDiff, Int.cast_ofNat_Int, List.getD_cons_zero, List.getD_cons_succ, s_asgi, t_law_random, e1, dv, hm, hb, d30, r1, for_one, bodyF, m0, hh, bitsD, Int.zero_mul, Int.zero_add, Int.add_zero]
      rfl
    · exact inB_iff.mpr ⟨Int.emod_nonneg _ (by omega), Int.emod_lt_of_pos _ (by omega)⟩
theorem cl_random (k : Nat) {n i : Nat} {g : PyData} {S : Sto} (G : GenOk n g) (hS : S[i]? = some (0, g)) (hn : n < 2 ^ 40) (l : Nat) (hl0 : 0 < l) (hl : l ≤ 1000) :
    ∃ r g', callD (evC tb W (k + 2)) i_law_random [cel i, .int l] S = some (.int r, S.set i (0, g')) ∧ inB l r = true ∧ GenOk (n + 1) g' := by
  obtain ⟨a, s, c, rfl, h1, h2, h3, h4, h5⟩ := G
  obtain ⟨r, a', c', q1, q2, q3, q4, q5⟩ := ev_random (W := W) k a s c l hl0 hl h1 h4 (by omega)
  exact ⟨r, genD a' s c', callD_one rfl hS q1, q2, a', s, c', rfl, q3, h2, h3, q4, by omega⟩
end K50
end
section
set_option Elab.async false
set_option linter.all false
set_option maxRecDepth 100000
set_option maxHeartbeats 4000000
namespace K50
open PySem TW
variable {W : Nat}
/-! ### groups -/
def abEnt : List Nat → Nat → Nat → Nat
  | [], _, _ => 0
  | o :: os, l, r => (l + r) % o + o * abEnt os (l / o) (r / o)
def abL (os : List Nat) : List (List Int) := (List.range (os.foldl (· * ·) 1)).map fun i => (List.range (os.foldl (· * ·) 1)).map fun j => ((abEnt os.reverse i j : Nat) : Int)
def diL (n : Nat) : List (List Int) := (List.range (2 * n)).map fun (i : Nat) => (List.range (2 * n)).map fun (j : Nat) => (if i < n then ((i : Int) + j) % n else ((i : Int) - j) % n) + n * (if (decide (i < n)) != (decide (j < n)) then 1 else 0)
def tupD (os : List Nat) : PyData := .tuple (os.map fun (o : Nat) => PyData.int o)
def menuL : List (List Nat) := [[2], [3], [4], [2, 2], [5], [6], [7], [8], [2, 4], [2, 2, 2], [3, 3], [9], [10], [2, 6]]
theorem ab_2 (k : Nat) : evC tb W (k + 1) i_law_abelian [.tuple [.int 2]] [] = some (gridD (abL [2]), []) := by kernel_rfl
theorem ab_3 (k : Nat) : evC tb W (k + 1) i_law_abelian [.tuple [.int 3]] [] = some (gridD (abL [3]), []) := by kernel_rfl
theorem ab_4 (k : Nat) : evC tb W (k + 1) i_law_abelian [.tuple [.int 4]] [] = some (gridD (abL [4]), []) := by kernel_rfl
theorem ab_2_2 (k : Nat) : evC tb W (k + 1) i_law_abelian [.tuple [.int 2, .int 2]] [] = some (gridD (abL [2, 2]), []) := by kernel_rfl
theorem ab_5 (k : Nat) : evC tb W (k + 1) i_law_abelian [.tuple [.int 5]] [] = some (gridD (abL [5]), []) := by kernel_rfl
theorem ab_6 (k : Nat) : evC tb W (k + 1) i_law_abelian [.tuple [.int 6]] [] = some (gridD (abL [6]), []) := by kernel_rfl
theorem ab_7 (k : Nat) : evC tb W (k + 1) i_law_abelian [.tuple [.int 7]] [] = some (gridD (abL [7]), []) := by kernel_rfl
theorem ab_8 (k : Nat) : evC tb W (k + 1) i_law_abelian [.tuple [.int 8]] [] = some (gridD (abL [8]), []) := by kernel_rfl
theorem ab_2_4 (k : Nat) : evC tb W (k + 1) i_law_abelian [.tuple [.int 2, .int 4]] [] = some (gridD (abL [2, 4]), []) := by kernel_rfl
theorem ab_2_2_2 (k : Nat) : evC tb W (k + 1) i_law_abelian [.tuple [.int 2, .int 2, .int 2]] [] = some (gridD (abL [2, 2, 2]), []) := by kernel_rfl
theorem ab_3_3 (k : Nat) : evC tb W (k + 1) i_law_abelian [.tuple [.int 3, .int 3]] [] = some (gridD (abL [3, 3]), []) := by kernel_rfl
theorem ab_9 (k : Nat) : evC tb W (k + 1) i_law_abelian [.tuple [.int 9]] [] = some (gridD (abL [9]), []) := by kernel_rfl
theorem ab_10 (k : Nat) : evC tb W (k + 1) i_law_abelian [.tuple [.int 10]] [] = some (gridD (abL [10]), []) := by kernel_rfl
theorem ab_2_6 (k : Nat) : evC tb W (k + 1) i_law_abelian [.tuple [.int 2, .int 6]] [] = some (gridD (abL [2, 6]), []) := by kernel_rfl
theorem di_3 (k : Nat) : evC tb W (k + 1) i_law_dihedral [.int 3] [] = some (gridD (diL 3), []) := by kernel_rfl
theorem di_4 (k : Nat) : evC tb W (k + 1) i_law_dihedral [.int 4] [] = some (gridD (diL 4), []) := by kernel_rfl
theorem di_5 (k : Nat) : evC tb W (k + 1) i_law_dihedral [.int 5] [] = some (gridD (diL 5), []) := by kernel_rfl
theorem cl_abelian (k : Nat) {os : List Nat} (h : os ∈ menuL) (S : Sto) : callD (evC tb W (k + 1)) i_law_abelian [tupD os] S = some (gridD (abL os), S) := by
  simp only [menuL, List.mem_cons, List.not_mem_nil, or_false] at h
  rcases h with rfl | rfl | rfl | rfl | rfl | rfl | rfl | rfl | rfl | rfl | rfl | rfl | rfl | rfl
  · exact callD_plain rfl (ab_2 k)
  · exact callD_plain rfl (ab_3 k)
  · exact callD_plain rfl (ab_4 k)
  · exact callD_plain rfl (ab_2_2 k)
  · exact callD_plain rfl (ab_5 k)
  · exact callD_plain rfl (ab_6 k)
  · exact callD_plain rfl (ab_7 k)
  · exact callD_plain rfl (ab_8 k)
  · exact callD_plain rfl (ab_2_4 k)
  · exact callD_plain rfl (ab_2_2_2 k)
  · exact callD_plain rfl (ab_3_3 k)
  · exact callD_plain rfl (ab_9 k)
  · exact callD_plain rfl (ab_10 k)
  · exact callD_plain rfl (ab_2_6 k)
theorem cl_dihedral (k : Nat) {n : Nat} (h1 : 3 ≤ n) (h2 : n ≤ 5) (S : Sto) : callD (evC tb W (k + 1)) i_law_dihedral [.int n] S = some (gridD (diL n), S) := by
  have : n = 3 ∨ n = 4 ∨ n = 5 := by omega
  rcases this with rfl | rfl | rfl
  · exact callD_plain rfl (di_3 k)
  · exact callD_plain rfl (di_4 k)
  · exact callD_plain rfl (di_5 k)
def fineB (g : List (List Int)) : Bool := latB g && decide (2 ≤ g.length) && decide (g.length ≤ 12) && g.all fun r => decide (r.length = g.length)
theorem fine_ab : menuL.all (fun os => fineB (abL os)) = true := by decide +kernel
theorem fine_di : [3, 4, 5].all (fun n => fineB (diL n)) = true := by decide +kernel
/-- a right square of a fair size -/
structure Fine (g : List (List Int)) : Prop where
  lat : Lat g
  two : 2 ≤ g.length
  few : g.length ≤ 12
theorem fine_of {g : List (List Int)} (h : fineB g = true) : Fine g := by
  unfold fineB at h
  simp only [Bool.and_eq_true, decide_eq_true_eq, List.all_eq_true] at h
  obtain ⟨⟨⟨h1, h2⟩, h3⟩, h4⟩ := h
  exact ⟨⟨by omega, h4, h1⟩, h2, h3⟩
end K50
end
section
set_option Elab.async false
set_option linter.all false
set_option maxRecDepth 100000
set_option maxHeartbeats 4000000
namespace K50
open PySem TW
variable {W : Nat}
/-! ### a shuffled range -/
theorem app_at {S : Sto} {j : Nat} {xs : List PyData} {v : Int} (h : S[j]? = some (0, .list xs)) (hl : xs.length ≤ 1000000) : appD S (cel j) [.int v] = some (.none, S.set j (0, .list (xs ++ [.int v]))) := by
  unfold appD
  rw [celOf_cel]
  simp only [settle_int, Option.bind_some, h]
  rw [if_pos (lt_line hl)]
theorem erase_map : ∀ (xs : List Int) (i : Nat), (xs.map PyData.int).eraseIdx i = (xs.eraseIdx i).map PyData.int
  | [], _ => rfl
  | _ :: _, 0 => rfl
  | x :: xs, i + 1 => congrArg (PyData.int x :: ·) (erase_map xs i)
theorem popAt_at {S : Sto} {j : Nat} {xs : List Int} {r : Int} (h : S[j]? = some (0, iL xs)) (hr : inB xs.length r = true) (hx : xs.length ≤ 1000000) : ∃ y, xs[r.toNat]? = some y ∧ popAtD S (cel j) [.int r] = some (.int y, S.set j (0, iL (xs.eraseIdx r.toNat))) := by
  obtain ⟨h1, h2⟩ := inB_iff.mp hr
  have hlt : r.toNat < xs.length := by omega
  refine ⟨xs[r.toNat], List.getElem?_eq_getElem hlt, ?_⟩
  unfold popAtD
  simp only [celOf_cel, h]
  have e : (decide (0 ≤ r) && decide (r < ((xs.map PyData.int).length : Int)) && decide (r < 2 ^ 62)) = true := by
    simp only [Bool.and_eq_true, decide_eq_true_eq, List.length_map]
    omega
  rw [if_pos e, List.getElem?_map, List.getElem?_eq_getElem hlt]
  simp only [Option.map_some]
  rw [erase_map]
theorem erase_perm : ∀ (l : List Int) (i : Nat) (y : Int), l[i]? = some y → (y :: l.eraseIdx i).Perm l
  | x :: l, 0, y, h => by
    simp at h
    subst h
    exact List.Perm.refl _
  | x :: l, i + 1, y, h => by
    have := erase_perm l i y (by simpa using h)
    exact (List.Perm.swap x y (l.eraseIdx i)).trans (List.Perm.cons x this)
theorem ev_shuffled (k : Nat) {n m : Nat} {gd : PyData} (G : GenOk n gd) (hn : n < 2 ^ 39) (hm : m ≤ 100) (hW : 200 ≤ W) :
    ∃ p gd', evC tb W (k + 3) i_law_shuffled [cel 0, .int m] [(0, gd)] = some (iL p, [(0, gd')]) ∧ p.length = m ∧ p.Nodup ∧ p.all (inB m) = true ∧ GenOk (n + m) gd' := by
  rw [evC_run (fn := f_law_shuffled) rfl rfl]
  obtain ⟨env', S', h1, p, gd', h2, h3, h4, h5, h6⟩ := whlLoop_ind (test := testF tb (evC tb W (k + 2)) (.cmp .ne (.var 2) (.lst .nil))) (body := bodyF tb (evC tb W (k + 2)) W 1 (.cons (.ex (.mt .append (.var 3) (.cons (.mt .popAt (.var 2) (.cons (.call i_law_random [true, false] (.cons (.var 0) (.cons (.bi .len (.cons (.var 2) .nil)) .nil))) .nil)) .nil))) .nil))
    (fun j env S => ∃ (left found : List Int) (gd' : PyData), env = [some (cel 0), some (.int m), some (cel 1), some (cel 2)] ∧ S = [(0, gd'), (0, iL left), (0, iL found)] ∧ left.length = j ∧ found.length + j = m ∧ (found ++ left).Nodup ∧ (found ++ left).all (inB m) = true ∧ GenOk (n + (m - j)) gd')
    (fun env S => ∃ (p : List Int) (gd' : PyData), env = [some (cel 0), some (.int m), some (cel 1), some (cel 2)] ∧ S = [(0, gd'), (0, iL []), (0, iL p)] ∧ (p.length = m ∧ p.Nodup) ∧ p.all (inB m) = true ∧ GenOk (n + m) gd')
    (by
      rintro j env S ⟨left, found, gd', rfl, rfl, a1, a2, a3, a4, a5⟩
      obtain ⟨r, g2, p1, p2, p3⟩ := cl_random (W := W) k (i := 0) (S := [(0, gd'), (0, iL left), (0, iL found)]) a5 rfl (by omega) left.length (by omega) (by omega)
      have p1 : callD (evC tb W (k + 2)) i_law_random [cel 0, .int left.length] [(0, gd'), (0, iL left), (0, iL found)] = some (.int r, [(0, g2), (0, iL left), (0, iL found)]) := p1
      obtain ⟨y, b1, b2⟩ := popAt_at (S := [(0, g2), (0, iL left), (0, iL found)]) (j := 1) rfl p2 (by omega)
      have b2 : popAtD [(0, g2), (0, iL left), (0, iL found)] (cel 1) [.int r] = some (.int y, [(0, g2), (0, iL (left.eraseIdx r.toNat)), (0, iL found)]) := b2
      have b3 := app_at (S := [(0, g2), (0, iL (left.eraseIdx r.toNat)), (0, iL found)]) (j := 2) (v := y) rfl (by rw [List.length_map]; omega)
      have b3 : appD [(0, g2), (0, iL (left.eraseIdx r.toNat)), (0, iL found)] (cel 2) [.int y] = some (.none, [(0, g2), (0, iL (left.eraseIdx r.toNat)), (0, .list (found.map PyData.int ++ [.int y]))]) := b3
      have ef : found.map PyData.int ++ [.int y] = (found ++ [y]).map PyData.int := by rw [List.map_append]; rfl
      rw [ef] at b3
      have ne : decide (left = []) = false := decide_eq_false (fun q => by subst q; cases a1)
      have hr : r.toNat < left.length := (List.getElem?_eq_some_iff.mp b1).1
      have hperm : (found ++ [y] ++ left.eraseIdx r.toNat).Perm (found ++ left) := by
        rw [List.append_assoc]
        refine List.Perm.append_left _ ?_
        exact erase_perm left r.toNat y b1
      refine ⟨[(0, gd'), (0, iL left), (0, iL found)], [some (cel 0), some (.int m), some (cel 1), some (cel 2)], [(0, g2), (0, iL (left.eraseIdx r.toNat)), (0, iL (found ++ [y]))], ?_, ?_, left.eraseIdx r.toNat, found ++ [y], g2, rfl, rfl, ?_, ?_, ?_, ?_, ?_⟩
      · simp -implicitDefEqProofs only [testF, bnd_some, bnd_none, mpd_some, mpd_none, cnd_true, cnd_false, e_var, vl_int, vl_bool, vl_none, vl_str, vl_list, vl_tuple, vl_edict, vl_cel, vl_scr, e_int, e_str, e_bl, e_non, e_edict, e_bin, e_neg, e_cmp, e_chain, e_and, e_or, e_not, e_ite, e_tup, e_lst, e_call, e_callk, e_bi, e_mt, e_idx, e_sl, e_slr, e_lc, e_thaw, e_lrng, l_nil, l_cons, o_nil, o_cons, t_nil, t_cons, i_rng, i_cons, s_asg, s_asgm, s_asgi, s_par, s_ex, s_ret, s_retm, s_retn, s_iff, s_forr, s_whl, s_pas, s_brk, s_cnt, b_nil, b_cons, th_nx, th_rt, th_bk, th_ct, List.getElem?_cons_zero, List.getElem?_cons_succ, List.map_cons, List.map_nil, List.cons_append, List.nil_append, List.replicate_succ, List.replicate_zero, if_true, if_false, Bool.false_eq_true, Bool.not_true, Bool.not_false, peek_int, peek_bool, peek_none, peek_str, peek_list, peek_tuple, peek_edict, peek_cel, settle_int, settle_bool, settle_none, settle_str, settle_list, settle_tuple, settle_edict, isTrueD_bool, biD, one, two, kindB, tyD, lenD, intOfD, iiD, sumD, listD, tupleD, binD, addD_int, subD, mulD_int, intD, cmpD, cmpI, isD, isNon, eqD_int, eqD_str, outD_rt, outD_rtt, outD_nx, bindT, List.set_cons_zero, List.set_cons_succ, wipeE, frE, celOf_int, celOf_bool, celOf_none, celOf_str, celOf_list, celOf_tuple, celOf_edict, celOf_cel, Option.isNone_none, Option.isNone_some, Bool.and_true, Bool.true_and, Bool.and_false, Bool.false_and, Bool.or_true, Bool.true_or, Bool.or_false, Bool.false_or, beginD_list, beginD_tuple, unlock_none, unlockO, idxD_list, idxD_tuple, setsE, decide_true, decide_false, List.take_nil, List.length_nil, List.length_cons, mtD, List.set_nil, List.getElem?_nil, Nat.zero_add, decide_eq_true_eq, sb_nil, sb_t, sb_f, sb_e, sa_nil, sa_cons, Nat.reduceSub, Nat.reduceLT, Nat.reduceAdd, Nat.reduceMul, Nat.reduceLeDiff, cnd_and, cnd_or, Option.bind_some, Option.map_some, Option.bind_none, Option.map_none, List.length_map, reduceCtorEq, beq_self_eq_true, eqD_nil, line, Nat.zero_le, ixD_0, ixD_1, ixD_2, ixD_last, Int.reduceEq, Int.reduceLT, Int.reduceLE, Int.reduceNeg, Int.reduceAdd, Int.reduceSub, Int.reduceMul, Nat.reduceEqDiff, Int.cast_ofNat_Int, List.getD_cons_zero, List.getD_cons_succ, ne]
      · simp -implicitDefEqProofs only [bodyF, bnd_some, bnd_none, mpd_some, mpd_none, cnd_true, cnd_false, e_var, vl_int, vl_bool, vl_none, vl_str, vl_list, vl_tuple, vl_edict, vl_cel, vl_scr, e_int, e_str, e_bl, e_non, e_edict, e_bin, e_neg, e_cmp, e_chain, e_and, e_or, e_not, e_ite, e_tup, e_lst, e_call, e_callk, e_bi, e_mt, e_idx, e_sl, e_slr, e_lc, e_thaw, e_lrng, l_nil, l_cons, o_nil, o_cons, t_nil, t_cons, i_rng, i_cons, s_asg, s_asgm, s_asgi, s_par, s_ex, s_ret, s_retm, s_retn, s_iff, s_forr, s_whl, s_pas, s_brk, s_cnt, b_nil, b_cons, th_nx, th_rt, th_bk, th_ct, List.getElem?_cons_zero, List.getElem?_cons_succ, List.map_cons, List.map_nil, List.cons_append, List.nil_append, List.replicate_succ, List.replicate_zero, if_true, if_false, Bool.false_eq_true, Bool.not_true, Bool.not_false, peek_int, peek_bool, peek_none, peek_str, peek_list, peek_tuple, peek_edict, peek_cel, settle_int, settle_bool, settle_none, settle_str, settle_list, settle_tuple, settle_edict, isTrueD_bool, biD, one, two, kindB, tyD, lenD, intOfD, iiD, sumD, listD, tupleD, binD, addD_int, subD, mulD_int, intD, cmpD, cmpI, isD, isNon, eqD_int, eqD_str, outD_rt, outD_rtt, outD_nx, bindT, List.set_cons_zero, List.set_cons_succ, wipeE, frE, celOf_int, celOf_bool, celOf_none, celOf_str, celOf_list, celOf_tuple, celOf_edict, celOf_cel, Option.isNone_none, Option.isNone_some, Bool.and_true, Bool.true_and, Bool.and_false, Bool.false_and, Bool.or_true, Bool.true_or, Bool.or_false, Bool.false_or, beginD_list, beginD_tuple, unlock_none, unlockO, idxD_list, idxD_tuple, setsE, decide_true, decide_false, List.take_nil, List.length_nil, List.length_cons, mtD, List.set_nil, List.getElem?_nil, Nat.zero_add, decide_eq_true_eq, sb_nil, sb_t, sb_f, sb_e, sa_nil, sa_cons, Nat.reduceSub, Nat.reduceLT, Nat.reduceAdd, Nat.reduceMul, Nat.reduceLeDiff, cnd_and, cnd_or, Option.bind_some, Option.map_some, Option.bind_none, Option.map_none, List.length_map, reduceCtorEq, beq_self_eq_true, eqD_nil, line, Nat.zero_le, ixD_0, ixD_1, ixD_2, ixD_last, Int.reduceEq, Int.reduceLT, Int.reduceLE, Int.reduceNeg, Int.reduceAdd, Int.reduceSub, Int.reduceMul, Nat.reduceEqDiff, Int.cast_ofNat_Int, List.getD_cons_zero, List.getD_cons_succ, p1, b2, b3]
      · rw [List.length_eraseIdx_of_lt hr]; omega
      · rw [List.length_append, List.length_singleton]; omega
      · exact hperm.nodup_iff.mpr a3
      · rw [List.all_eq_true] at a4 ⊢
        exact fun z hz => a4 z (hperm.mem_iff.mp hz)
      · exact p3.mono (by omega))
    (by
      rintro env S ⟨left, found, gd', rfl, rfl, a1, a2, a3, a4, a5⟩
      have : left = [] := List.eq_nil_of_length_eq_zero a1
      subst this
      rw [List.append_nil] at a3 a4
      refine ⟨[(0, gd'), (0, iL []), (0, iL found)], ?_, found, gd', rfl, rfl, ⟨by omega, a3⟩, a4, a5⟩
      simp -implicitDefEqProofs only [testF, bnd_some, bnd_none, mpd_some, mpd_none, cnd_true, cnd_false, e_var, vl_int, vl_bool, vl_none, vl_str, vl_list, vl_tuple, vl_edict, vl_cel, vl_scr, e_int, e_str, e_bl, e_non, e_edict, e_bin, e_neg, e_cmp, e_chain, e_and, e_or, e_not, e_ite, e_tup, e_lst, e_call, e_callk, e_bi, e_mt, e_idx, e_sl, e_slr, e_lc, e_thaw, e_lrng, l_nil, l_cons, o_nil, o_cons, t_nil, t_cons, i_rng, i_cons, s_asg, s_asgm, s_asgi, s_par, s_ex, s_ret, s_retm, s_retn, s_iff, s_forr, s_whl, s_pas, s_brk, s_cnt, b_nil, b_cons, th_nx, th_rt, th_bk, th_ct, List.getElem?_cons_zero, List.getElem?_cons_succ, List.map_cons, List.map_nil, List.cons_append, List.nil_append, List.replicate_succ, List.replicate_zero, if_true, if_false, Bool.false_eq_true, Bool.not_true, Bool.not_false, peek_int, peek_bool, peek_none, peek_str, peek_list, peek_tuple, peek_edict, peek_cel, settle_int, settle_bool, settle_none, settle_str, settle_list, settle_tuple, settle_edict, isTrueD_bool, biD, one, two, kindB, tyD, lenD, intOfD, iiD, sumD, listD, tupleD, binD, addD_int, subD, mulD_int, intD, cmpD, cmpI, isD, isNon, eqD_int, eqD_str, outD_rt, outD_rtt, outD_nx, bindT, List.set_cons_zero, List.set_cons_succ, wipeE, frE, celOf_int, celOf_bool, celOf_none, celOf_str, celOf_list, celOf_tuple, celOf_edict, celOf_cel, Option.isNone_none, Option.isNone_some, Bool.and_true, Bool.true_and, Bool.and_false, Bool.false_and, Bool.or_true, Bool.true_or, Bool.or_false, Bool.false_or, beginD_list, beginD_tuple, unlock_none, unlockO, idxD_list, idxD_tuple, setsE, decide_true, decide_false, List.take_nil, List.length_nil, List.length_cons, mtD, List.set_nil, List.getElem?_nil, Nat.zero_add, decide_eq_true_eq, sb_nil, sb_t, sb_f, sb_e, sa_nil, sa_cons, Nat.reduceSub, Nat.reduceLT, Nat.reduceAdd, Nat.reduceMul, Nat.reduceLeDiff, cnd_and, cnd_or, Option.bind_some, Option.map_some, Option.bind_none, Option.map_none, List.length_map, reduceCtorEq, beq_self_eq_true, eqD_nil, line, Nat.zero_le, ixD_0, ixD_1, ixD_2, ixD_last, Int.reduceEq, Int.reduceLT, Int.reduceLE, Int.reduceNeg, Int.reduceAdd, Int.reduceSub, Int.reduceMul, Nat.reduceEqDiff, Int.cast_ofNat_Int, List.getD_cons_zero, List.getD_cons_succ, List.map_nil]
      try rfl)
    m W [some (cel 0), some (.int m), some (cel 1), some (cel 2)] [(0, gd), (0, .list ((List.range m).map fun (i : Nat) => PyData.int i)), (0, .list [])] (by omega)
    ⟨(List.range m).map fun (i : Nat) => (i : Int), [], gd, rfl, by rw [show (List.range m).map (fun (i : Nat) => PyData.int i) = ((List.range m).map fun (i : Nat) => (i : Int)).map PyData.int by rw [List.map_map]; rfl]; rfl, by simp, by simp, by
        rw [List.nil_append]
        unfold List.Nodup
        rw [List.pairwise_map]
        exact List.Pairwise.imp (fun h => by omega) (List.nodup_range (n := m)), by
        rw [List.nil_append, List.all_eq_true]
        intro z hz
        obtain ⟨i, hi, rfl⟩ := List.mem_map.mp hz
        exact inB_iff.mpr ⟨by omega, by have := List.mem_range.mp hi; omega⟩, by simpa using G⟩
  subst h2 h3
  refine ⟨p, gd', ?_, h4.1, h4.2, h5, h6⟩
  have hm2 : m ≤ 16777216 := by omega
  simp -implicitDefEqProofs only [bnd_some, bnd_none, mpd_some, mpd_none, cnd_true, cnd_false, e_var, vl_int, vl_bool, vl_none, vl_str, vl_list, vl_tuple, vl_edict, vl_cel, vl_scr, e_int, e_str, e_bl, e_non, e_edict, e_bin, e_neg, e_cmp, e_chain, e_and, e_or, e_not, e_ite, e_tup, e_lst, e_call, e_callk, e_bi, e_mt, e_idx, e_sl, e_slr, e_lc, e_thaw, e_lrng, l_nil, l_cons, o_nil, o_cons, t_nil, t_cons, i_rng, i_cons, s_asg, s_asgm, s_asgi, s_par, s_ex, s_ret, s_retm, s_retn, s_iff, s_forr, s_whl, s_pas, s_brk, s_cnt, b_nil, b_cons, th_nx, th_rt, th_bk, th_ct, List.getElem?_cons_zero, List.getElem?_cons_succ, List.map_cons, List.map_nil, List.cons_append, List.nil_append, List.replicate_succ, List.replicate_zero, if_true, if_false, Bool.false_eq_true, Bool.not_true, Bool.not_false, peek_int, peek_bool, peek_none, peek_str, peek_list, peek_tuple, peek_edict, peek_cel, settle_int, settle_bool, settle_none, settle_str, settle_list, settle_tuple, settle_edict, isTrueD_bool, biD, one, two, kindB, tyD, lenD, intOfD, iiD, sumD, listD, tupleD, binD, addD_int, subD, mulD_int, intD, cmpD, cmpI, isD, isNon, eqD_int, eqD_str, outD_rt, outD_rtt, outD_nx, bindT, List.set_cons_zero, List.set_cons_succ, wipeE, frE, celOf_int, celOf_bool, celOf_none, celOf_str, celOf_list, celOf_tuple, celOf_edict, celOf_cel, Option.isNone_none, Option.isNone_some, Bool.and_true, Bool.true_and, Bool.and_false, Bool.false_and, Bool.or_true, Bool.true_or, Bool.or_false, Bool.false_or, beginD_list, beginD_tuple, unlock_none, unlockO, idxD_list, idxD_tuple, setsE, decide_true, decide_false, List.take_nil, List.length_nil, List.length_cons, mtD, List.set_nil, List.getElem?_nil, Nat.zero_add, decide_eq_true_eq, sb_nil, sb_t, sb_f, sb_e, sa_nil, sa_cons, Nat.reduceSub, Nat.reduceLT, Nat.reduceAdd, Nat.reduceMul, Nat.reduceLeDiff, cnd_and, cnd_or, Option.bind_some, Option.map_some, Option.bind_none, Option.map_none, List.length_map, reduceCtorEq, beq_self_eq_true, eqD_nil, line, Nat.zero_le, ixD_0, ixD_1, ixD_2, ixD_last, Int.reduceEq, Int.reduceLT, Int.reduceLE, Int.reduceNeg, Int.reduceAdd, Int.reduceSub, Int.reduceMul, Nat.reduceEqDiff, Int.cast_ofNat_Int, List.getD_cons_zero, List.getD_cons_succ, s_retm, e_thaw, t_law_shuffled, rngD_one (show m < 2 ^ 62 by omega), List.length_range, hm2, s_whl, h1]
  rfl
theorem cl_shuffled (k : Nat) {n i m : Nat} {gd : PyData} {S : Sto} (G : GenOk n gd) (hS : S[i]? = some (0, gd)) (hn : n < 2 ^ 39) (hm : m ≤ 100) (hW : 200 ≤ W) :
    ∃ p gd', callD (evC tb W (k + 3)) i_law_shuffled [cel i, .int m] S = some (iL p, S.set i (0, gd')) ∧ p.length = m ∧ p.Nodup ∧ p.all (inB m) = true ∧ GenOk (n + m) gd' := by
  obtain ⟨p, gd', h1, h2, h3, h4, h5⟩ := ev_shuffled (W := W) k G hn hm hW
  exact ⟨p, gd', callD_one rfl hS h1, h2, h3, h4, h5⟩
end K50
end
section
set_option Elab.async false
set_option linter.all false
set_option maxRecDepth 100000
set_option maxHeartbeats 4000000
namespace K50
open PySem TW
variable {W : Nat}
theorem ev_group (k : Nat) {n : Nat} {gd : PyData} (G : GenOk n gd) (hn : n < 2 ^ 39) :
    ∃ g gd', evC tb W (k + 3) i_law_group [cel 0] [(0, gd)] = some (gridD g, [(0, gd')]) ∧ Fine g ∧ GenOk (n + 2) gd' := by
  rw [evC_run (fn := f_law_group) rfl rfl]
  obtain ⟨w, g1, q1, q2, q3⟩ := cl_random (W := W) k (i := 0) (S := [(0, gd)]) G rfl (by omega) 4 (by omega) (by omega)
  have q1 : callD (evC tb W (k + 2)) i_law_random [cel 0, .int 4] [(0, gd)] = some (.int w, [(0, g1)]) := q1
  by_cases hw : w = 0
  · obtain ⟨r, g2, p1, p2, p3⟩ := cl_random (W := W) k (i := 0) (S := [(0, g1)]) q3 rfl (by omega) 3 (by omega) (by omega)
    have p1 : callD (evC tb W (k + 2)) i_law_random [cel 0, .int 3] [(0, g1)] = some (.int r, [(0, g2)]) := p1
    obtain ⟨r0, r1⟩ := inB_iff.mp p2
    have er : (3 : Int) + r = ((3 + r.toNat : Nat) : Int) := by omega
    have hd := cl_dihedral (W := W) (k + 1) (n := 3 + r.toNat) (by omega) (by omega)
    refine ⟨diL (3 + r.toNat), g2, ?_, fine_of ?_, p3.mono (by omega)⟩
    · have e0 : decide (w = 0) = true := decide_eq_true hw
      unfold gridD at hd
      unfold gridD
      simp -implicitDefEqProofs only [bnd_some, bnd_none, mpd_some, mpd_none, cnd_true, cnd_false, e_var, vl_int, vl_bool, vl_none, vl_str, vl_list, vl_tuple, vl_edict, vl_cel, vl_scr, e_int, e_str, e_bl, e_non, e_edict, e_bin, e_neg, e_cmp, e_chain, e_and, e_or, e_not, e_ite, e_tup, e_lst, e_call, e_callk, e_bi, e_mt, e_idx, e_sl, e_slr, e_lc, e_thaw, e_lrng, l_nil, l_cons, o_nil, o_cons, t_nil, t_cons, i_rng, i_cons, s_asg, s_asgm, s_asgi, s_par, s_ex, s_ret, s_retm, s_retn, s_iff, s_forr, s_whl, s_pas, s_brk, s_cnt, b_nil, b_cons, th_nx, th_rt, th_bk, th_ct, List.getElem?_cons_zero, List.getElem?_cons_succ, List.map_cons, List.map_nil, List.cons_append, List.nil_append, List.replicate_succ, List.replicate_zero, if_true, if_false, Bool.false_eq_true, Bool.not_true, Bool.not_false, peek_int, peek_bool, peek_none, peek_str, peek_list, peek_tuple, peek_edict, peek_cel, settle_int, settle_bool, settle_none, settle_str, settle_list, settle_tuple, settle_edict, isTrueD_bool, biD, one, two, kindB, tyD, lenD, intOfD, iiD, sumD, listD, tupleD, binD, addD_int, subD, mulD_int, intD, cmpD, cmpI, isD, isNon, eqD_int, eqD_str, outD_rt, outD_rtt, outD_nx, bindT, List.set_cons_zero, List.set_cons_succ, wipeE, frE, celOf_int, celOf_bool, celOf_none, celOf_str, celOf_list, celOf_tuple, celOf_edict, celOf_cel, Option.isNone_none, Option.isNone_some, Bool.and_true, Bool.true_and, Bool.and_false, Bool.false_and, Bool.or_true, Bool.true_or, Bool.or_false, Bool.false_or, beginD_list, beginD_tuple, unlock_none, unlockO, idxD_list, idxD_tuple, setsE, decide_true, decide_false, List.take_nil, List.length_nil, List.length_cons, mtD, List.set_nil, List.getElem?_nil, Nat.zero_add, decide_eq_true_eq, sb_nil, sb_t, sb_f, sb_e, sa_nil, sa_cons, Nat.reduceSub, Nat.reduceLT, Nat.reduceAdd, Nat.reduceMul, Nat.reduceLeDiff, cnd_and, cnd_or, Option.bind_some, Option.map_some, Option.bind_none, Option.map_none, List.length_map, reduceCtorEq, beq_self_eq_true, eqD_nil, line, Nat.zero_le, ixD_0, ixD_1, ixD_2, ixD_last, Int.reduceEq, Int.reduceLT, Int.reduceLE, Int.reduceNeg, Int.reduceAdd, Int.reduceSub, Int.reduceMul, Nat.reduceEqDiff, Int.cast_ofNat_Int, List.getD_cons_zero, List.getD_cons_succ, t_law_group, q1, e0, p1, er, hd]
      rfl
    · have := fine_di
      rw [List.all_eq_true] at this
      exact this _ (by simp; omega)
  · obtain ⟨r, g2, p1, p2, p3⟩ := cl_random (W := W) k (i := 0) (S := [(0, g1)]) q3 rfl (by omega) 14 (by omega) (by omega)
    have p1 : callD (evC tb W (k + 2)) i_law_random [cel 0, .int 14] [(0, g1)] = some (.int r, [(0, g2)]) := p1
    obtain ⟨r0, r1⟩ := inB_iff.mp p2
    have hr : r.toNat < menuL.length := by show r.toNat < 14; omega
    have hos : menuL[r.toNat] ∈ menuL := List.getElem_mem hr
    have hm : (menuL.map tupD)[r.toNat]? = some (tupD menuL[r.toNat]) := by rw [List.getElem?_map, List.getElem?_eq_getElem hr]; rfl
    have hm : [PyData.tuple [PyData.int 2], PyData.tuple [PyData.int 3], PyData.tuple [PyData.int 4], PyData.tuple [PyData.int 2, PyData.int 2], PyData.tuple [PyData.int 5], PyData.tuple [PyData.int 6], PyData.tuple [PyData.int 7], PyData.tuple [PyData.int 8], PyData.tuple [PyData.int 2, PyData.int 4], PyData.tuple [PyData.int 2, PyData.int 2, PyData.int 2], PyData.tuple [PyData.int 3, PyData.int 3], PyData.tuple [PyData.int 9], PyData.tuple [PyData.int 10], PyData.tuple [PyData.int 2, PyData.int 6]][r.toNat]? = some (tupD menuL[r.toNat]) := hm
    have hd := cl_abelian (W := W) (k + 1) hos
    have hc : celOf (tupD menuL[r.toNat]) = none := rfl
    have hs : ∀ S, settle S (tupD menuL[r.toNat]) = some (tupD menuL[r.toNat], S) := fun _ => rfl
    have ix : ixD 14 r = some r.toNat := ixD_int p2
    refine ⟨abL menuL[r.toNat], g2, ?_, fine_of ?_, p3.mono (by omega)⟩
    · have e0 : decide (w = 0) = false := decide_eq_false hw
      unfold gridD at hd
      unfold gridD
      simp -implicitDefEqProofs only [bnd_some, bnd_none, mpd_some, mpd_none, cnd_true, cnd_false, e_var, vl_int, vl_bool, vl_none, vl_str, vl_list, vl_tuple, vl_edict, vl_cel, vl_scr, e_int, e_str, e_bl, e_non, e_edict, e_bin, e_neg, e_cmp, e_chain, e_and, e_or, e_not, e_ite, e_tup, e_lst, e_call, e_callk, e_bi, e_mt, e_idx, e_sl, e_slr, e_lc, e_thaw, e_lrng, l_nil, l_cons, o_nil, o_cons, t_nil, t_cons, i_rng, i_cons, s_asg, s_asgm, s_asgi, s_par, s_ex, s_ret, s_retm, s_retn, s_iff, s_forr, s_whl, s_pas, s_brk, s_cnt, b_nil, b_cons, th_nx, th_rt, th_bk, th_ct, List.getElem?_cons_zero, List.getElem?_cons_succ, List.map_cons, List.map_nil, List.cons_append, List.nil_append, List.replicate_succ, List.replicate_zero, if_true, if_false, Bool.false_eq_true, Bool.not_true, Bool.not_false, peek_int, peek_bool, peek_none, peek_str, peek_list, peek_tuple, peek_edict, peek_cel, settle_int, settle_bool, settle_none, settle_str, settle_list, settle_tuple, settle_edict, isTrueD_bool, biD, one, two, kindB, tyD, lenD, intOfD, iiD, sumD, listD, tupleD, binD, addD_int, subD, mulD_int, intD, cmpD, cmpI, isD, isNon, eqD_int, eqD_str, outD_rt, outD_rtt, outD_nx, bindT, List.set_cons_zero, List.set_cons_succ, wipeE, frE, celOf_int, celOf_bool, celOf_none, celOf_str, celOf_list, celOf_tuple, celOf_edict, celOf_cel, Option.isNone_none, Option.isNone_some, Bool.and_true, Bool.true_and, Bool.and_false, Bool.false_and, Bool.or_true, Bool.true_or, Bool.or_false, Bool.false_or, beginD_list, beginD_tuple, unlock_none, unlockO, idxD_list, idxD_tuple, setsE, decide_true, decide_false, List.take_nil, List.length_nil, List.length_cons, mtD, List.set_nil, List.getElem?_nil, Nat.zero_add, decide_eq_true_eq, sb_nil, sb_t, sb_f, sb_e, sa_nil, sa_cons, Nat.reduceSub, Nat.reduceLT, Nat.reduceAdd, Nat.reduceMul, Nat.reduceLeDiff, cnd_and, cnd_or, Option.bind_some, Option.map_some, Option.bind_none, Option.map_none, List.length_map, reduceCtorEq, beq_self_eq_true, eqD_nil, line, Nat.zero_le, ixD_0, ixD_1, ixD_2, ixD_last, Int.reduceEq, Int.reduceLT, Int.reduceLE, Int.reduceNeg, Int.reduceAdd, Int.reduceSub, Int.reduceMul, Nat.reduceEqDiff, Int.cast_ofNat_Int, List.getD_cons_zero, List.getD_cons_succ, t_law_group, q1, e0, p1, ix, hm, hs, hd]
      rfl
    · have := fine_ab
      rw [List.all_eq_true] at this
      exact this _ hos
theorem cl_group (k : Nat) {n i : Nat} {gd : PyData} {S : Sto} (G : GenOk n gd) (hS : S[i]? = some (0, gd)) (hn : n < 2 ^ 39) :
    ∃ g gd', callD (evC tb W (k + 3)) i_law_group [cel i] S = some (gridD g, S.set i (0, gd')) ∧ Fine g ∧ GenOk (n + 2) gd' := by
  obtain ⟨g, gd', h1, h2, h3⟩ := ev_group (W := W) k G hn
  exact ⟨g, gd', callD_one rfl hS h1, h2, h3⟩
end K50
end
section
set_option Elab.async false
set_option linter.all false
set_option maxRecDepth 100000
set_option maxHeartbeats 4000000
namespace K50
open PySem TW
variable {W : Nat}
/-! ### squares by a weight -/
def wtsL (n : Nat) : List Int := (((List.range (n - 1)).map (· + 1)).filter fun w => ((List.range (n - 2)).map (· + 2)).all fun l => !(n % l == 0 && w % l == 0)).map fun (w : Nat) => (w : Int)
def wL (n : Nat) (w : Int) : List (List Int) := (List.range n).map fun (i : Nat) => (List.range n).map fun (j : Nat) => (w * i + j) % n
def wtIf : T := (.cmp .eq (.lc [13] (.var 13) (.rng (.cons (.int 2) (.cons (.var 7) .nil))) (.cons (.and (.cmp .eq (.bin .mod (.var 7) (.var 13)) (.int 0)) (.cmp .eq (.bin .mod (.var 9) (.var 13)) (.int 0))) .nil) (.var 13)) (.lst .nil))
abbrev env0 (n : Nat) : Evn := [some (cel 0), some (.int 0), none, none, none, none, none, some (.int n), none, none, none, none, none, none]
theorem wt_3 (k : Nat) (g : PyData) : lcLoop (lcOne tb (evC tb W k) (env0 3) [9] (.var 9) (.cons wtIf .nil) (.var 9)) (intRange 1 2) [] [(0, g)] = some ((wtsL 3).map .int, [(0, g)]) := by kernel_rfl
theorem wt_4 (k : Nat) (g : PyData) : lcLoop (lcOne tb (evC tb W k) (env0 4) [9] (.var 9) (.cons wtIf .nil) (.var 9)) (intRange 1 3) [] [(0, g)] = some ((wtsL 4).map .int, [(0, g)]) := by kernel_rfl
theorem wt_5 (k : Nat) (g : PyData) : lcLoop (lcOne tb (evC tb W k) (env0 5) [9] (.var 9) (.cons wtIf .nil) (.var 9)) (intRange 1 4) [] [(0, g)] = some ((wtsL 5).map .int, [(0, g)]) := by kernel_rfl
theorem wt_6 (k : Nat) (g : PyData) : lcLoop (lcOne tb (evC tb W k) (env0 6) [9] (.var 9) (.cons wtIf .nil) (.var 9)) (intRange 1 5) [] [(0, g)] = some ((wtsL 6).map .int, [(0, g)]) := by kernel_rfl
theorem wt_7 (k : Nat) (g : PyData) : lcLoop (lcOne tb (evC tb W k) (env0 7) [9] (.var 9) (.cons wtIf .nil) (.var 9)) (intRange 1 6) [] [(0, g)] = some ((wtsL 7).map .int, [(0, g)]) := by kernel_rfl
theorem wt_8 (k : Nat) (g : PyData) : lcLoop (lcOne tb (evC tb W k) (env0 8) [9] (.var 9) (.cons wtIf .nil) (.var 9)) (intRange 1 7) [] [(0, g)] = some ((wtsL 8).map .int, [(0, g)]) := by kernel_rfl
theorem wt_9 (k : Nat) (g : PyData) : lcLoop (lcOne tb (evC tb W k) (env0 9) [9] (.var 9) (.cons wtIf .nil) (.var 9)) (intRange 1 8) [] [(0, g)] = some ((wtsL 9).map .int, [(0, g)]) := by kernel_rfl
theorem wt_all (k : Nat) (g : PyData) {n : Nat} (h1 : 3 ≤ n) (h2 : n ≤ 9) : lcLoop (lcOne tb (evC tb W k) (env0 n) [9] (.var 9) (.cons wtIf .nil) (.var 9)) (intRange 1 (n - 1)) [] [(0, g)] = some ((wtsL n).map .int, [(0, g)]) := by
  have : n = 3 ∨ n = 4 ∨ n = 5 ∨ n = 6 ∨ n = 7 ∨ n = 8 ∨ n = 9 := by omega
  rcases this with rfl | rfl | rfl | rfl | rfl | rfl | rfl
  · exact wt_3 k g
  · exact wt_4 k g
  · exact wt_5 k g
  · exact wt_6 k g
  · exact wt_7 k g
  · exact wt_8 k g
  · exact wt_9 k g
theorem fine_w : [3, 4, 5, 6, 7, 8, 9].all (fun n => (wtsL n).all fun w => fineB (wL n w) && decide (0 ≤ w) && decide (w ≤ 9) && decide (0 < (wtsL n).length) && decide ((wtsL n).length ≤ 9)) = true := by decide +kernel
theorem rngD_two {n : Nat} (h : 1 ≤ n) (hn : n ≤ 1000) : rngD [.int 1, .int n] = some (intRange 1 (n - 1)) := by
  have e : (decide (-(2 ^ 62) ≤ (1 : Int)) && decide ((1 : Int) < 2 ^ 62) && decide (-(2 ^ 62) ≤ (n : Int)) && decide ((n : Int) < 2 ^ 62)) = true := by
    simp only [Bool.and_eq_true, decide_eq_true_eq]
    omega
  simp only [rngD, e, if_true]
  rw [show ((n : Int) - 1).toNat = n - 1 by omega]
theorem range_iL (n : Nat) : (List.range n).map (fun (i : Nat) => PyData.int i) = ((List.range n).map fun (i : Nat) => (i : Int)).map PyData.int := by rw [List.map_map]; rfl
theorem grid_w (k n : Nat) (w : Int) (g : PyData) (v8 : Option PyData) (hw0 : 0 ≤ w) (hw : w ≤ 9) (hn0 : 0 < n) (hn : n ≤ 100) :
    lcLoop (lcOne tb (evC tb W k) [some (cel 0), some (.int 0), none, none, none, none, none, some (.int n), v8, some (.int w), none, none, none, none] [11] (.var 11) .nil (.lc [12] (.var 12) (.rng (.cons (.var 7) .nil)) .nil (.bin .mod (.bi .int (.cons (.bin .add (.bin .mul (.var 9) (.var 11)) (.var 12)) .nil)) (.var 7))))
      ((List.range n).map fun (i : Nat) => PyData.int i) [] [(0, g)] = some ((wL n w).map fun r => iL r, [(0, g)]) := by
  have hr := rngD_one (show n < 2 ^ 62 by omega)
  have hp : decide ((0 : Int) < n) = true := decide_eq_true (by omega)
  rw [lcLoop_all (g := fun (i : Nat) => iL ((List.range n).map fun (j : Nat) => (w * i + j) % n)) (List.range n) ?_ (le_line (by rw [List.length_range]; omega))]
  · unfold wL
    rw [List.map_map]; rfl
  · intro i hi
    have hm : mulOk w (i : Int) = true := mulOk_l (small_of hw0 (by omega))
    have hin : lcLoop (lcOne tb (evC tb W k) [some (cel 0), some (.int 0), none, none, none, none, none, some (.int n), v8, some (.int w), none, some (.int i), none, none] [12] (.var 12) .nil (.bin .mod (.bi .int (.cons (.bin .add (.bin .mul (.var 9) (.var 11)) (.var 12)) .nil)) (.var 7))) ((List.range n).map fun (i : Nat) => PyData.int i) [] [(0, g)] = some (((List.range n).map fun (j : Nat) => (w * i + j) % n).map .int, [(0, g)]) := by
      rw [lcLoop_all (g := fun (j : Nat) => PyData.int ((w * i + j) % n)) (List.range n) ?_ (le_line (by rw [List.length_range]; omega))]
      · rw [List.map_map]; rfl
      · intro j hj
        simp -implicitDefEqProofs only [lcOne, bnd_some, bnd_none, mpd_some, mpd_none, cnd_true, cnd_false, e_var, vl_int, vl_bool, vl_none, vl_str, vl_list, vl_tuple, vl_edict, vl_cel, vl_scr, e_int, e_str, e_bl, e_non, e_edict, e_bin, e_neg, e_cmp, e_chain, e_and, e_or, e_not, e_ite, e_tup, e_lst, e_call, e_callk, e_bi, e_mt, e_idx, e_sl, e_slr, e_lc, e_thaw, e_lrng, l_nil, l_cons, o_nil, o_cons, t_nil, t_cons, i_rng, i_cons, s_asg, s_asgm, s_asgi, s_par, s_ex, s_ret, s_retm, s_retn, s_iff, s_forr, s_whl, s_pas, s_brk, s_cnt, b_nil, b_cons, th_nx, th_rt, th_bk, th_ct, List.getElem?_cons_zero, List.getElem?_cons_succ, List.map_cons, List.map_nil, List.cons_append, List.nil_append, List.replicate_succ, List.replicate_zero, if_true, if_false, Bool.false_eq_true, Bool.not_true, Bool.not_false, peek_int, peek_bool, peek_none, peek_str, peek_list, peek_tuple, peek_edict, peek_cel, settle_int, settle_bool, settle_none, settle_str, settle_list, settle_tuple, settle_edict, isTrueD_bool, biD, one, two, kindB, tyD, lenD, intOfD, iiD, sumD, listD, tupleD, binD, addD_int, subD, mulD_int, intD, cmpD, cmpI, isD, isNon, eqD_int, eqD_str, outD_rt, outD_rtt, outD_nx, bindT, List.set_cons_zero, List.set_cons_succ, wipeE, frE, celOf_int, celOf_bool, celOf_none, celOf_str, celOf_list, celOf_tuple, celOf_edict, celOf_cel, Option.isNone_none, Option.isNone_some, Bool.and_true, Bool.true_and, Bool.and_false, Bool.false_and, Bool.or_true, Bool.true_or, Bool.or_false, Bool.false_or, beginD_list, beginD_tuple, unlock_none, unlockO, idxD_list, idxD_tuple, setsE, decide_true, decide_false, List.take_nil, List.length_nil, List.length_cons, mtD, List.set_nil, List.getElem?_nil, Nat.zero_add, decide_eq_true_eq, sb_nil, sb_t, sb_f, sb_e, sa_nil, sa_cons, Nat.reduceSub, Nat.reduceLT, Nat.reduceAdd, Nat.reduceMul, Nat.reduceLeDiff, cnd_and, cnd_or, Option.bind_some, Option.map_some, Option.bind_none, Option.map_none, List.length_map, reduceCtorEq, beq_self_eq_true, eqD_nil, line, Nat.zero_le, ixD_0, ixD_1, ixD_2, ixD_last, Int.reduceEq, Int.reduceLT, Int.reduceLE, Int.reduceNeg, Int.reduceAdd, Int.reduceSub, Int.reduceMul, Nat.reduceEqDiff, Int.cast_ofNat_Int, List.getD_cons_zero, List.getD_cons_succ, hm, hp]
    simp -implicitDefEqProofs only [lcOne, bnd_some, bnd_none, mpd_some, mpd_none, cnd_true, cnd_false, e_var, vl_int, vl_bool, vl_none, vl_str, vl_list, vl_tuple, vl_edict, vl_cel, vl_scr, e_int, e_str, e_bl, e_non, e_edict, e_bin, e_neg, e_cmp, e_chain, e_and, e_or, e_not, e_ite, e_tup, e_lst, e_call, e_callk, e_bi, e_mt, e_idx, e_sl, e_slr, e_lc, e_thaw, e_lrng, l_nil, l_cons, o_nil, o_cons, t_nil, t_cons, i_rng, i_cons, s_asg, s_asgm, s_asgi, s_par, s_ex, s_ret, s_retm, s_retn, s_iff, s_forr, s_whl, s_pas, s_brk, s_cnt, b_nil, b_cons, th_nx, th_rt, th_bk, th_ct, List.getElem?_cons_zero, List.getElem?_cons_succ, List.map_cons, List.map_nil, List.cons_append, List.nil_append, List.replicate_succ, List.replicate_zero, if_true, if_false, Bool.false_eq_true, Bool.not_true, Bool.not_false, peek_int, peek_bool, peek_none, peek_str, peek_list, peek_tuple, peek_edict, peek_cel, settle_int, settle_bool, settle_none, settle_str, settle_list, settle_tuple, settle_edict, isTrueD_bool, biD, one, two, kindB, tyD, lenD, intOfD, iiD, sumD, listD, tupleD, binD, addD_int, subD, mulD_int, intD, cmpD, cmpI, isD, isNon, eqD_int, eqD_str, outD_rt, outD_rtt, outD_nx, bindT, List.set_cons_zero, List.set_cons_succ, wipeE, frE, celOf_int, celOf_bool, celOf_none, celOf_str, celOf_list, celOf_tuple, celOf_edict, celOf_cel, Option.isNone_none, Option.isNone_some, Bool.and_true, Bool.true_and, Bool.and_false, Bool.false_and, Bool.or_true, Bool.true_or, Bool.or_false, Bool.false_or, beginD_list, beginD_tuple, unlock_none, unlockO, idxD_list, idxD_tuple, setsE, decide_true, decide_false, List.take_nil, List.length_nil, List.length_cons, mtD, List.set_nil, List.getElem?_nil, Nat.zero_add, decide_eq_true_eq, sb_nil, sb_t, sb_f, sb_e, sa_nil, sa_cons, Nat.reduceSub, Nat.reduceLT, Nat.reduceAdd, Nat.reduceMul, Nat.reduceLeDiff, cnd_and, cnd_or, Option.bind_some, Option.map_some, Option.bind_none, Option.map_none, List.length_map, reduceCtorEq, beq_self_eq_true, eqD_nil, line, Nat.zero_le, ixD_0, ixD_1, ixD_2, ixD_last, Int.reduceEq, Int.reduceLT, Int.reduceLE, Int.reduceNeg, Int.reduceAdd, Int.reduceSub, Int.reduceMul, Nat.reduceEqDiff, Int.cast_ofNat_Int, List.getD_cons_zero, List.getD_cons_succ, hr, hin]
end K50
end
section
set_option Elab.async false
set_option linter.all false
set_option maxRecDepth 100000
set_option maxHeartbeats 4000000
namespace K50
open PySem TW
variable {W : Nat}
/-! ### a square with rows, signs and names shuffled -/
theorem dedup_full : ∀ (l acc : List Int), l.Nodup → (∀ x ∈ l, x ∉ acc) → (l.foldl PyProof.Rows.step_dedup acc).length = acc.length + l.length
  | [], acc, _, _ => rfl
  | x :: l, acc, nd, h => by
    obtain ⟨n1, n2⟩ := List.nodup_cons.mp nd
    have hx : acc.any (· == x) = false := by
      rw [List.any_eq_false]
      intro y hy
      have := h x (List.mem_cons_self ..)
      simp only [beq_iff_eq]
      intro e
      exact this (e ▸ hy)
    have e : PyProof.Rows.step_dedup acc x = acc ++ [x] := by
      unfold PyProof.Rows.step_dedup
      rw [hx]; rfl
    show (l.foldl PyProof.Rows.step_dedup (PyProof.Rows.step_dedup acc x)).length = _
    rw [e, dedup_full l (acc ++ [x]) n2 (fun y hy hm => ?_)]
    · simp only [List.length_append, List.length_cons, List.length_nil]; omega
    · rcases List.mem_append.mp hm with hm | hm
      · exact h y (List.mem_cons_of_mem _ hy) hm
      · rw [List.mem_singleton] at hm
        exact n1 (hm ▸ hy)
theorem met_full {ns : List Int} (nd : ns.Nodup) : metD ns = ns.length := by
  unfold metD PyProof.Rows.firstMet
  rw [getD_map, dedup_full ns [] nd (by simp)]
  simp
theorem once_of {n : Nat} {ns : List Int} (h1 : ns.length = n) (h2 : ns.all (inB n) = true) (h3 : ns.Nodup) : onceB n ns = true := by
  unfold onceB rowB
  rw [decide_eq_true h1, h2, decide_eq_true ((met_full h3).trans h1)]; rfl
theorem nodup_map {n : Nat} {f : Nat → Int} (h : ∀ i j, i < n → j < n → f i = f j → i = j) : ((List.range n).map f).Nodup := by
  unfold List.Nodup
  rw [List.pairwise_map, List.pairwise_iff_getElem]
  intro i j hi hj hij e
  have hi' : i < n := by simpa using hi
  have hj' : j < n := by simpa using hj
  rw [List.getElem_range, List.getElem_range] at e
  exact absurd (h i j hi' hj' e) (by omega)
/-- a table by a function -/
def tabL (n : Nat) (f : Nat → Nat → Int) : List (List Int) := (List.range n).map fun i => (List.range n).map fun j => f i j
theorem fine_tab {n : Nat} {f : Nat → Nat → Int} (h2 : 2 ≤ n) (hn : n ≤ 12) (hin : ∀ i j, i < n → j < n → inB n (f i j) = true) (hr : ∀ i j j', i < n → j < n → j' < n → f i j = f i j' → j = j')
    (hc : ∀ i i' j, i < n → i' < n → j < n → f i j = f i' j → i = i') : Fine (tabL n f) := by
  have hl : (tabL n f).length = n := by simp [tabL]
  have hrow : ∀ r ∈ tabL n f, r.length = (tabL n f).length := fun r hr' => by
    rw [hl]
    obtain ⟨i, _, rfl⟩ := List.mem_map.mp hr'
    simp
  refine ⟨⟨by omega, hrow, ?_⟩, by omega, by omega⟩
  unfold latB
  rw [hl, decide_eq_true h2]
  simp only [Bool.true_and, Bool.and_eq_true, List.all_eq_true]
  refine ⟨fun r hr' => ?_, fun j hj => ?_⟩
  · obtain ⟨i, hi, rfl⟩ := List.mem_map.mp hr'
    have hi := List.mem_range.mp hi
    refine once_of (by simp) ?_ (nodup_map fun a b ha hb e => hr i a b hi ha hb e)
    rw [List.all_eq_true]
    intro x hx
    obtain ⟨j, hj, rfl⟩ := List.mem_map.mp hx
    exact hin i j hi (List.mem_range.mp hj)
  · have hj := List.mem_range.mp hj
    have e : colB (tabL n f) j = (List.range n).map fun i => f i j := by
      unfold colB tabL
      rw [List.map_map]
      refine List.map_congr_left fun i hi => ?_
      show ((List.range n).map fun j => f i j).getD j 0 = f i j
      rw [List.getD_eq_getElem?_getD, List.getElem?_map, List.getElem?_eq_getElem (by simpa using hj)]
      simp
    rw [e]
    refine once_of (by simp) ?_ (nodup_map fun a b ha hb e => hc a b j ha hb hj e)
    rw [List.all_eq_true]
    intro x hx
    obtain ⟨i, hi, rfl⟩ := List.mem_map.mp hx
    exact hin i j (List.mem_range.mp hi) hj
/-- a shuffled range -/
structure Shuf (n : Nat) (p : List Int) : Prop where
  len : p.length = n
  nd : p.Nodup
  inn : p.all (inB n) = true
theorem Shuf.get {n : Nat} {p : List Int} (h : Shuf n p) {i : Nat} (hi : i < n) : p[i]? = some (p.getD i 0) ∧ inB n (p.getD i 0) = true := by
  have hl : i < p.length := by rw [h.len]; exact hi
  have e : p.getD i 0 = p[i] := by rw [List.getD_eq_getElem?_getD, List.getElem?_eq_getElem hl]; rfl
  refine ⟨by rw [List.getElem?_eq_getElem hl, e], ?_⟩
  rw [e]
  have := h.inn
  rw [List.all_eq_true] at this
  exact this _ (List.getElem_mem hl)
theorem Shuf.inj {n : Nat} {p : List Int} (h : Shuf n p) {i j : Nat} (hi : i < n) (hj : j < n) (e : p.getD i 0 = p.getD j 0) : i = j := by
  have a := (h.get hi).1
  have b := (h.get hj).1
  rw [e] at a
  exact nodup_at h.nd a b
def permF (g : List (List Int)) (p q r : List Int) (i j : Nat) : Int := r.getD (ent g (p.getD i 0) (q.getD j 0)).toNat 0
theorem fine_perm {g : List (List Int)} (G : Fine g) {p q r : List Int} (hp : Shuf g.length p) (hq : Shuf g.length q) (hr : Shuf g.length r) : Fine (tabL g.length (permF g p q r)) := by
  have hent : ∀ i j, i < g.length → j < g.length → inB g.length (ent g (p.getD i 0) (q.getD j 0)) = true := fun i j hi hj => G.lat.ent_in (hp.get hi).2 (hq.get hj).2
  have hlt : ∀ i j, i < g.length → j < g.length → (ent g (p.getD i 0) (q.getD j 0)).toNat < g.length := fun i j hi hj => by
    obtain ⟨h1, h2⟩ := inB_iff.mp (hent i j hi hj)
    omega
  have hback : ∀ i j i' j', i < g.length → j < g.length → i' < g.length → j' < g.length → permF g p q r i j = permF g p q r i' j' → ent g (p.getD i 0) (q.getD j 0) = ent g (p.getD i' 0) (q.getD j' 0) := fun i j i' j' h1 h2 h3 h4 e => by
    have := hr.inj (hlt i j h1 h2) (hlt i' j' h3 h4) e
    obtain ⟨a, _⟩ := inB_iff.mp (hent i j h1 h2)
    obtain ⟨b, _⟩ := inB_iff.mp (hent i' j' h3 h4)
    omega
  refine fine_tab G.two G.few (fun i j hi hj => (hr.get (hlt i j hi hj)).2) (fun i j j' hi hj hj' e => ?_) fun i i' j hi hi' hj e => ?_
  · exact hq.inj hj hj' (G.lat.rinj (hp.get hi).2 (hq.get hj).2 (hq.get hj').2 (hback i j i j' hi hj hi hj' e))
  · exact hp.inj hi hi' (G.lat.cinj (hp.get hi).2 (hp.get hi').2 (hq.get hj).2 (hback i j i' j hi hj hi' hj e))
theorem grid_p (k : Nat) {g : List (List Int)} (G : Fine g) {p q r : List Int} (hp : Shuf g.length p) (hq : Shuf g.length q) (hr : Shuf g.length r) (gd : PyData) (v1 : Option PyData) :
    lcLoop (lcOne tb (evC tb W k) [some (cel 0), v1, some (.list (g.map fun r => iL r)), some (iL p), some (iL q), some (iL r), none, none, none, none, none, none, none, none] [11] (.var 11) .nil (.lc [12] (.var 12) (.rng (.cons (.bi .len (.cons (.var 2) .nil)) .nil)) .nil (.idx (.var 5) (.idx (.idx (.var 2) (.idx (.var 3) (.var 11))) (.idx (.var 4) (.var 12))))))
      ((List.range g.length).map fun (i : Nat) => PyData.int i) [] [(0, gd)] = some ((tabL g.length (permF g p q r)).map fun r => iL r, [(0, gd)]) := by
  have hf := G.few
  have hrg := rngD_one (show g.length < 2 ^ 62 by omega)
  rw [lcLoop_all (g := fun (i : Nat) => iL ((List.range g.length).map fun (j : Nat) => permF g p q r i j)) (List.range g.length) ?_ (le_line (by rw [List.length_range]; omega))]
  · unfold tabL
    rw [List.map_map]; rfl
  · intro i hi
    have hi := List.mem_range.mp hi
    obtain ⟨p1, p2⟩ := hp.get hi
    have hin : lcLoop (lcOne tb (evC tb W k) [some (cel 0), v1, some (.list (g.map fun r => iL r)), some (iL p), some (iL q), some (iL r), none, none, none, none, none, some (.int i), none, none] [12] (.var 12) .nil (.idx (.var 5) (.idx (.idx (.var 2) (.idx (.var 3) (.var 11))) (.idx (.var 4) (.var 12))))) ((List.range g.length).map fun (i : Nat) => PyData.int i) [] [(0, gd)]
        = some (((List.range g.length).map fun (j : Nat) => permF g p q r i j).map .int, [(0, gd)]) := by
      rw [lcLoop_all (g := fun (j : Nat) => PyData.int (permF g p q r i j)) (List.range g.length) ?_ (le_line (by rw [List.length_range]; omega))]
      · rw [List.map_map]; rfl
      · intro j hj
        have hj := List.mem_range.mp hj
        obtain ⟨q1, q2⟩ := hq.get hj
        have he := G.lat.ent_in p2 q2
        obtain ⟨e1, e2⟩ := inB_iff.mp he
        obtain ⟨r1, r2⟩ := hr.get (show (ent g (p.getD i 0) (q.getD j 0)).toNat < g.length by omega)
        have a1 : (p.map PyData.int)[i]? = some (.int (p.getD i 0)) := by rw [List.getElem?_map, p1]; rfl
        have a2 : (q.map PyData.int)[j]? = some (.int (q.getD j 0)) := by rw [List.getElem?_map, q1]; rfl
        have a3 : (r.map PyData.int)[(ent g (p.getD i 0) (q.getD j 0)).toNat]? = some (.int (permF g p q r i j)) := by rw [List.getElem?_map, r1]; rfl
        simp -implicitDefEqProofs only [lcOne, bnd_some, bnd_none, mpd_some, mpd_none, cnd_true, cnd_false, e_var, vl_int, vl_bool, vl_none, vl_str, vl_list, vl_tuple, vl_edict, vl_cel, vl_scr, e_int, e_str, e_bl, e_non, e_edict, e_bin, e_neg, e_cmp, e_chain, e_and, e_or, e_not, e_ite, e_tup, e_lst, e_call, e_callk, e_bi, e_mt, e_idx, e_sl, e_slr, e_lc, e_thaw, e_lrng, l_nil, l_cons, o_nil, o_cons, t_nil, t_cons, i_rng, i_cons, s_asg, s_asgm, s_asgi, s_par, s_ex, s_ret, s_retm, s_retn, s_iff, s_forr, s_whl, s_pas, s_brk, s_cnt, b_nil, b_cons, th_nx, th_rt, th_bk, th_ct, List.getElem?_cons_zero, List.getElem?_cons_succ, List.map_cons, List.map_nil, List.cons_append, List.nil_append, List.replicate_succ, List.replicate_zero, if_true, if_false, Bool.false_eq_true, Bool.not_true, Bool.not_false, peek_int, peek_bool, peek_none, peek_str, peek_list, peek_tuple, peek_edict, peek_cel, settle_int, settle_bool, settle_none, settle_str, settle_list, settle_tuple, settle_edict, isTrueD_bool, biD, one, two, kindB, tyD, lenD, intOfD, iiD, sumD, listD, tupleD, binD, addD_int, subD, mulD_int, intD, cmpD, cmpI, isD, isNon, eqD_int, eqD_str, outD_rt, outD_rtt, outD_nx, bindT, List.set_cons_zero, List.set_cons_succ, wipeE, frE, celOf_int, celOf_bool, celOf_none, celOf_str, celOf_list, celOf_tuple, celOf_edict, celOf_cel, Option.isNone_none, Option.isNone_some, Bool.and_true, Bool.true_and, Bool.and_false, Bool.false_and, Bool.or_true, Bool.true_or, Bool.or_false, Bool.false_or, beginD_list, beginD_tuple, unlock_none, unlockO, idxD_list, idxD_tuple, setsE, decide_true, decide_false, List.take_nil, List.length_nil, List.length_cons, mtD, List.set_nil, List.getElem?_nil, Nat.zero_add, decide_eq_true_eq, sb_nil, sb_t, sb_f, sb_e, sa_nil, sa_cons, Nat.reduceSub, Nat.reduceLT, Nat.reduceAdd, Nat.reduceMul, Nat.reduceLeDiff, cnd_and, cnd_or, Option.bind_some, Option.map_some, Option.bind_none, Option.map_none, List.length_map, reduceCtorEq, beq_self_eq_true, eqD_nil, line, Nat.zero_le, ixD_0, ixD_1, ixD_2, ixD_last, Int.reduceEq, Int.reduceLT, Int.reduceLE, Int.reduceNeg, Int.reduceAdd, Int.reduceSub, Int.reduceMul, Nat.reduceEqDiff, Int.cast_ofNat_Int, List.getD_cons_zero, List.getD_cons_succ, hp.len, hq.len, hr.len, ixD_in hi, ixD_in hj, a1, a2, ixD_int p2, G.lat.get1 p2, G.lat.len1 p2, ixD_int q2, G.lat.get2 p2 q2, ixD_int he, a3]
    simp -implicitDefEqProofs only [lcOne, bnd_some, bnd_none, mpd_some, mpd_none, cnd_true, cnd_false, e_var, vl_int, vl_bool, vl_none, vl_str, vl_list, vl_tuple, vl_edict, vl_cel, vl_scr, e_int, e_str, e_bl, e_non, e_edict, e_bin, e_neg, e_cmp, e_chain, e_and, e_or, e_not, e_ite, e_tup, e_lst, e_call, e_callk, e_bi, e_mt, e_idx, e_sl, e_slr, e_lc, e_thaw, e_lrng, l_nil, l_cons, o_nil, o_cons, t_nil, t_cons, i_rng, i_cons, s_asg, s_asgm, s_asgi, s_par, s_ex, s_ret, s_retm, s_retn, s_iff, s_forr, s_whl, s_pas, s_brk, s_cnt, b_nil, b_cons, th_nx, th_rt, th_bk, th_ct, List.getElem?_cons_zero, List.getElem?_cons_succ, List.map_cons, List.map_nil, List.cons_append, List.nil_append, List.replicate_succ, List.replicate_zero, if_true, if_false, Bool.false_eq_true, Bool.not_true, Bool.not_false, peek_int, peek_bool, peek_none, peek_str, peek_list, peek_tuple, peek_edict, peek_cel, settle_int, settle_bool, settle_none, settle_str, settle_list, settle_tuple, settle_edict, isTrueD_bool, biD, one, two, kindB, tyD, lenD, intOfD, iiD, sumD, listD, tupleD, binD, addD_int, subD, mulD_int, intD, cmpD, cmpI, isD, isNon, eqD_int, eqD_str, outD_rt, outD_rtt, outD_nx, bindT, List.set_cons_zero, List.set_cons_succ, wipeE, frE, celOf_int, celOf_bool, celOf_none, celOf_str, celOf_list, celOf_tuple, celOf_edict, celOf_cel, Option.isNone_none, Option.isNone_some, Bool.and_true, Bool.true_and, Bool.and_false, Bool.false_and, Bool.or_true, Bool.true_or, Bool.or_false, Bool.false_or, beginD_list, beginD_tuple, unlock_none, unlockO, idxD_list, idxD_tuple, setsE, decide_true, decide_false, List.take_nil, List.length_nil, List.length_cons, mtD, List.set_nil, List.getElem?_nil, Nat.zero_add, decide_eq_true_eq, sb_nil, sb_t, sb_f, sb_e, sa_nil, sa_cons, Nat.reduceSub, Nat.reduceLT, Nat.reduceAdd, Nat.reduceMul, Nat.reduceLeDiff, cnd_and, cnd_or, Option.bind_some, Option.map_some, Option.bind_none, Option.map_none, List.length_map, reduceCtorEq, beq_self_eq_true, eqD_nil, line, Nat.zero_le, ixD_0, ixD_1, ixD_2, ixD_last, Int.reduceEq, Int.reduceLT, Int.reduceLE, Int.reduceNeg, Int.reduceAdd, Int.reduceSub, Int.reduceMul, Nat.reduceEqDiff, Int.cast_ofNat_Int, List.getD_cons_zero, List.getD_cons_succ, hrg, hin]
end K50
end
section
set_option Elab.async false
set_option linter.all false
set_option maxRecDepth 100000
set_option maxHeartbeats 4000000
namespace K50
open PySem TW
variable {W : Nat}
theorem lc_nil (one : PyData → Sto → Option (Option PyData × Sto)) (acc : List PyData) (S : Sto) : lcLoop one [] acc S = some (acc, S) := rfl
theorem lc_cons (one : PyData → Sto → Option (Option PyData × Sto)) (x : PyData) (xs acc : List PyData) (S : Sto) : lcLoop one (x :: xs) acc S = bnd (one x S) (fun r => match r.1 with
    | none => lcLoop one xs acc r.2
    | some y => if acc.length < line then lcLoop one xs (acc ++ [y]) r.2 else none) ⟨⟩ := rfl
theorem ev_square_0 (k : Nat) {n : Nat} {gd : PyData} (G : GenOk n gd) (hn : n < 2 ^ 38) {g1 : PyData} (q1 : callD (evC tb W (k + 5)) i_law_random [cel 0, .int 4] [(0, gd)] = some (.int 0, [(0, g1)])) (q3 : GenOk (n + 1) g1) :
    ∃ g gd', evC tb W (k + 6) i_law_square [cel 0] [(0, gd)] = some (gridD g, [(0, gd')]) ∧ Fine g ∧ GenOk (n + 100) gd' := by
  rw [evC_run (fn := f_law_square) rfl rfl]
  obtain ⟨r, g2, p1, p2, p3⟩ := cl_random (W := W) (k + 3) (i := 0) (S := [(0, g1)]) q3 rfl (by omega) 7 (by omega) (by omega)
  have p1 : callD (evC tb W (k + 5)) i_law_random [cel 0, .int 7] [(0, g1)] = some (.int r, [(0, g2)]) := p1
  obtain ⟨r0, r1⟩ := inB_iff.mp p2
  obtain ⟨m, hm, hm3, hm9⟩ : ∃ m : Nat, m = 3 + r.toNat ∧ 3 ≤ m ∧ m ≤ 9 := ⟨3 + r.toNat, rfl, by omega, by omega⟩
  have ix7 : ixD 7 r = some r.toNat := ixD_int p2
  have hs : [PyData.int 3, .int 4, .int 5, .int 6, .int 7, .int 8, .int 9][r.toNat]? = some (.int m) := by
    have : r.toNat < 7 := by omega
    subst hm
    match r.toNat, this with
    | 0, _ => rfl
    | 1, _ => rfl
    | 2, _ => rfl
    | 3, _ => rfl
    | 4, _ => rfl
    | 5, _ => rfl
    | 6, _ => rfl
  have hwt := wt_all (W := W) (k + 5) g2 hm3 hm9
  unfold wtIf env0 at hwt
  have hfw := fine_w
  rw [List.all_eq_true] at hfw
  have hfw := hfw m (by simp; omega)
  rw [List.all_eq_true] at hfw
  have hpos : 0 < (wtsL m).length ∧ (wtsL m).length ≤ 9 := by
    have : [3, 4, 5, 6, 7, 8, 9].all (fun n => decide (0 < (wtsL n).length) && decide ((wtsL n).length ≤ 9)) = true := by decide +kernel
    rw [List.all_eq_true] at this
    have := this m (by simp; omega)
    simpa using this
  obtain ⟨t, g3, b1, b2, b3⟩ := cl_random (W := W) (k + 3) (i := 0) (S := [(0, g2)]) p3 rfl (by omega) (wtsL m).length hpos.1 (by omega)
  have b1 : callD (evC tb W (k + 5)) i_law_random [cel 0, .int (wtsL m).length] [(0, g2)] = some (.int t, [(0, g3)]) := b1
  obtain ⟨t0, t1⟩ := inB_iff.mp b2
  have ht : t.toNat < (wtsL m).length := by omega
  have hw := hfw _ (List.getElem_mem ht)
  simp only [Bool.and_eq_true, decide_eq_true_eq] at hw
  have hget : ((wtsL m).map PyData.int)[t.toNat]? = some (.int (wtsL m)[t.toNat]) := by rw [List.getElem?_map, List.getElem?_eq_getElem ht]; rfl
  have hgr := grid_w (W := W) (k + 5) m (wtsL m)[t.toNat] g3 (some (iL (wtsL m))) hw.1.1.1.2 hw.1.1.2 (by omega) (by omega)
  refine ⟨wL m (wtsL m)[t.toNat], g3, ?_, fine_of hw.1.1.1.1, b3.mono (by omega)⟩
  unfold gridD
  simp -implicitDefEqProofs only [bnd_some, bnd_none, mpd_some, mpd_none, cnd_true, cnd_false, e_var, vl_int, vl_bool, vl_none, vl_str, vl_list, vl_tuple, vl_edict, vl_cel, vl_scr, e_int, e_str, e_bl, e_non, e_edict, e_bin, e_neg, e_cmp, e_chain, e_and, e_or, e_not, e_ite, e_tup, e_lst, e_call, e_callk, e_bi, e_mt, e_idx, e_sl, e_slr, e_lc, e_thaw, e_lrng, l_nil, l_cons, o_nil, o_cons, t_nil, t_cons, i_rng, i_cons, s_asg, s_asgm, s_asgi, s_par, s_ex, s_ret, s_retm, s_retn, s_iff, s_forr, s_whl, s_pas, s_brk, s_cnt, b_nil, b_cons, th_nx, th_rt, th_bk, th_ct, List.getElem?_cons_zero, List.getElem?_cons_succ, List.map_cons, List.map_nil, List.cons_append, List.nil_append, List.replicate_succ, List.replicate_zero, if_true, if_false, Bool.false_eq_true, Bool.not_true, Bool.not_false, peek_int, peek_bool, peek_none, peek_str, peek_list, peek_tuple, peek_edict, peek_cel, settle_int, settle_bool, settle_none, settle_str, settle_list, settle_tuple, settle_edict, isTrueD_bool, biD, one, two, kindB, tyD, lenD, intOfD, iiD, sumD, listD, tupleD, binD, addD_int, subD, mulD_int, intD, cmpD, cmpI, isD, isNon, eqD_int, eqD_str, outD_rt, outD_rtt, outD_nx, bindT, List.set_cons_zero, List.set_cons_succ, wipeE, frE, celOf_int, celOf_bool, celOf_none, celOf_str, celOf_list, celOf_tuple, celOf_edict, celOf_cel, Option.isNone_none, Option.isNone_some, Bool.and_true, Bool.true_and, Bool.and_false, Bool.false_and, Bool.or_true, Bool.true_or, Bool.or_false, Bool.false_or, beginD_list, beginD_tuple, unlock_none, unlockO, idxD_list, idxD_tuple, setsE, decide_true, decide_false, List.take_nil, List.length_nil, List.length_cons, mtD, List.set_nil, List.getElem?_nil, Nat.zero_add, decide_eq_true_eq, sb_nil, sb_t, sb_f, sb_e, sa_nil, sa_cons, Nat.reduceSub, Nat.reduceLT, Nat.reduceAdd, Nat.reduceMul, Nat.reduceLeDiff, cnd_and, cnd_or, Option.bind_some, Option.map_some, Option.bind_none, Option.map_none, List.length_map, reduceCtorEq, beq_self_eq_true, eqD_nil, line, Nat.zero_le, ixD_0, ixD_1, ixD_2, ixD_last, Int.reduceEq, Int.reduceLT, Int.reduceLE, Int.reduceNeg, Int.reduceAdd, Int.reduceSub, Int.reduceMul, Nat.reduceEqDiff, Int.cast_ofNat_Int, List.getD_cons_zero, List.getD_cons_succ, t_law_square, q1, p1, ix7, hs, rngD_two (show 1 ≤ m by omega) (show m ≤ 1000 by omega), hwt, b1, ixD_int b2, hget, rngD_one (show m < 2 ^ 62 by omega), hgr]
  rfl
theorem ev_square_1 (k : Nat) {n : Nat} {gd : PyData} (G : GenOk n gd) (hn : n < 2 ^ 38) (hW : 200 ≤ W) {g1 : PyData} {w : Int} (hw : w ≠ 0) (q1 : callD (evC tb W (k + 5)) i_law_random [cel 0, .int 4] [(0, gd)] = some (.int w, [(0, g1)])) (q3 : GenOk (n + 1) g1) :
    ∃ g gd', evC tb W (k + 6) i_law_square [cel 0] [(0, gd)] = some (gridD g, [(0, gd')]) ∧ Fine g ∧ GenOk (n + 100) gd' := by
  rw [evC_run (fn := f_law_square) rfl rfl]
  have e0 : decide (w = 0) = false := decide_eq_false hw
  obtain ⟨g, g2, a1, a2, a3⟩ := cl_group (W := W) (k + 2) (i := 0) (S := [(0, g1)]) q3 rfl (by omega)
  have a1 : callD (evC tb W (k + 5)) i_law_group [cel 0] [(0, g1)] = some (gridD g, [(0, g2)]) := a1
  have hf := a2.few
  obtain ⟨p, g3, b1, b2, b3, b4, b5⟩ := cl_shuffled (W := W) (k + 2) (i := 0) (m := g.length) (S := [(0, g2)]) a3 rfl (by omega) (by omega) hW
  have b1 : callD (evC tb W (k + 5)) i_law_shuffled [cel 0, .int g.length] [(0, g2)] = some (iL p, [(0, g3)]) := b1
  obtain ⟨q, g4, c1, c2, c3, c4, c5⟩ := cl_shuffled (W := W) (k + 2) (i := 0) (m := g.length) (S := [(0, g3)]) b5 rfl (by omega) (by omega) hW
  have c1 : callD (evC tb W (k + 5)) i_law_shuffled [cel 0, .int g.length] [(0, g3)] = some (iL q, [(0, g4)]) := c1
  obtain ⟨r, g5, d1, d2, d3, d4, d5⟩ := cl_shuffled (W := W) (k + 2) (i := 0) (m := g.length) (S := [(0, g4)]) c5 rfl (by omega) (by omega) hW
  have d1 : callD (evC tb W (k + 5)) i_law_shuffled [cel 0, .int g.length] [(0, g4)] = some (iL r, [(0, g5)]) := d1
  have r3 : rngD [.int 3] = some [.int 0, .int 1, .int 2] := rngD_one (j := 3) (by omega)
  have hgr := grid_p (W := W) (k + 5) a2 ⟨b2, b3, b4⟩ ⟨c2, c3, c4⟩ ⟨d2, d3, d4⟩ g5 (some (.int w))
  unfold gridD at a1
  by_cases h1 : w = 1
  · have e1 : decide (w = 1) = true := decide_eq_true h1
    refine ⟨g, g5, ?_, a2, d5.mono (by omega)⟩
    unfold gridD
    simp -implicitDefEqProofs only [bnd_some, bnd_none, mpd_some, mpd_none, cnd_true, cnd_false, e_var, vl_int, vl_bool, vl_none, vl_str, vl_list, vl_tuple, vl_edict, vl_cel, vl_scr, e_int, e_str, e_bl, e_non, e_edict, e_bin, e_neg, e_cmp, e_chain, e_and, e_or, e_not, e_ite, e_tup, e_lst, e_call, e_callk, e_bi, e_mt, e_idx, e_sl, e_slr, e_lc, e_thaw, e_lrng, l_nil, l_cons, o_nil, o_cons, t_nil, t_cons, i_rng, i_cons, s_asg, s_asgm, s_asgi, s_par, s_ex, s_ret, s_retm, s_retn, s_iff, s_forr, s_whl, s_pas, s_brk, s_cnt, b_nil, b_cons, th_nx, th_rt, th_bk, th_ct, List.getElem?_cons_zero, List.getElem?_cons_succ, List.map_cons, List.map_nil, List.cons_append, List.nil_append, List.replicate_succ, List.replicate_zero, if_true, if_false, Bool.false_eq_true, Bool.not_true, Bool.not_false, peek_int, peek_bool, peek_none, peek_str, peek_list, peek_tuple, peek_edict, peek_cel, settle_int, settle_bool, settle_none, settle_str, settle_list, settle_tuple, settle_edict, isTrueD_bool, biD, one, two, kindB, tyD, lenD, intOfD, iiD, sumD, listD, tupleD, binD, addD_int, subD, mulD_int, intD, cmpD, cmpI, isD, isNon, eqD_int, eqD_str, outD_rt, outD_rtt, outD_nx, bindT, List.set_cons_zero, List.set_cons_succ, wipeE, frE, celOf_int, celOf_bool, celOf_none, celOf_str, celOf_list, celOf_tuple, celOf_edict, celOf_cel, Option.isNone_none, Option.isNone_some, Bool.and_true, Bool.true_and, Bool.and_false, Bool.false_and, Bool.or_true, Bool.true_or, Bool.or_false, Bool.false_or, beginD_list, beginD_tuple, unlock_none, unlockO, idxD_list, idxD_tuple, setsE, decide_true, decide_false, List.take_nil, List.length_nil, List.length_cons, mtD, List.set_nil, List.getElem?_nil, Nat.zero_add, decide_eq_true_eq, sb_nil, sb_t, sb_f, sb_e, sa_nil, sa_cons, Nat.reduceSub, Nat.reduceLT, Nat.reduceAdd, Nat.reduceMul, Nat.reduceLeDiff, cnd_and, cnd_or, Option.bind_some, Option.map_some, Option.bind_none, Option.map_none, List.length_map, reduceCtorEq, beq_self_eq_true, eqD_nil, line, Nat.zero_le, ixD_0, ixD_1, ixD_2, ixD_last, Int.reduceEq, Int.reduceLT, Int.reduceLE, Int.reduceNeg, Int.reduceAdd, Int.reduceSub, Int.reduceMul, Nat.reduceEqDiff, Int.cast_ofNat_Int, List.getD_cons_zero, List.getD_cons_succ, t_law_square, q1, e0, a1, r3, lc_cons, lc_nil, lcOne, b1, c1, d1, e1]
    rfl
  · have e1 : decide (w = 1) = false := decide_eq_false h1
    refine ⟨tabL g.length (permF g p q r), g5, ?_, fine_perm a2 ⟨b2, b3, b4⟩ ⟨c2, c3, c4⟩ ⟨d2, d3, d4⟩, d5.mono (by omega)⟩
    unfold gridD
    simp -implicitDefEqProofs only [bnd_some, bnd_none, mpd_some, mpd_none, cnd_true, cnd_false, e_var, vl_int, vl_bool, vl_none, vl_str, vl_list, vl_tuple, vl_edict, vl_cel, vl_scr, e_int, e_str, e_bl, e_non, e_edict, e_bin, e_neg, e_cmp, e_chain, e_and, e_or, e_not, e_ite, e_tup, e_lst, e_call, e_callk, e_bi, e_mt, e_idx, e_sl, e_slr, e_lc, e_thaw, e_lrng, l_nil, l_cons, o_nil, o_cons, t_nil, t_cons, i_rng, i_cons, s_asg, s_asgm, s_asgi, s_par, s_ex, s_ret, s_retm, s_retn, s_iff, s_forr, s_whl, s_pas, s_brk, s_cnt, b_nil, b_cons, th_nx, th_rt, th_bk, th_ct, List.getElem?_cons_zero, List.getElem?_cons_succ, List.map_cons, List.map_nil, List.cons_append, List.nil_append, List.replicate_succ, List.replicate_zero, if_true, if_false, Bool.false_eq_true, Bool.not_true, Bool.not_false, peek_int, peek_bool, peek_none, peek_str, peek_list, peek_tuple, peek_edict, peek_cel, settle_int, settle_bool, settle_none, settle_str, settle_list, settle_tuple, settle_edict, isTrueD_bool, biD, one, two, kindB, tyD, lenD, intOfD, iiD, sumD, listD, tupleD, binD, addD_int, subD, mulD_int, intD, cmpD, cmpI, isD, isNon, eqD_int, eqD_str, outD_rt, outD_rtt, outD_nx, bindT, List.set_cons_zero, List.set_cons_succ, wipeE, frE, celOf_int, celOf_bool, celOf_none, celOf_str, celOf_list, celOf_tuple, celOf_edict, celOf_cel, Option.isNone_none, Option.isNone_some, Bool.and_true, Bool.true_and, Bool.and_false, Bool.false_and, Bool.or_true, Bool.true_or, Bool.or_false, Bool.false_or, beginD_list, beginD_tuple, unlock_none, unlockO, idxD_list, idxD_tuple, setsE, decide_true, decide_false, List.take_nil, List.length_nil, List.length_cons, mtD, List.set_nil, List.getElem?_nil, Nat.zero_add, decide_eq_true_eq, sb_nil, sb_t, sb_f, sb_e, sa_nil, sa_cons, Nat.reduceSub, Nat.reduceLT, Nat.reduceAdd, Nat.reduceMul, Nat.reduceLeDiff, cnd_and, cnd_or, Option.bind_some, Option.map_some, Option.bind_none, Option.map_none, List.length_map, reduceCtorEq, beq_self_eq_true, eqD_nil, line, Nat.zero_le, ixD_0, ixD_1, ixD_2, ixD_last, Int.reduceEq, Int.reduceLT, Int.reduceLE, Int.reduceNeg, Int.reduceAdd, Int.reduceSub, Int.reduceMul, Nat.reduceEqDiff, Int.cast_ofNat_Int, List.getD_cons_zero, List.getD_cons_succ, t_law_square, q1, e0, a1, r3, lc_cons, lc_nil, lcOne, b1, c1, d1, e1, rngD_one (show g.length < 2 ^ 62 by omega), hgr]
    rfl
theorem cl_square_r (k : Nat) {n i : Nat} {gd : PyData} {S : Sto} (G : GenOk n gd) (hS : S[i]? = some (0, gd)) (hn : n < 2 ^ 38) (hW : 200 ≤ W) :
    ∃ g gd', callD (evC tb W (k + 6)) i_law_square [cel i] S = some (gridD g, S.set i (0, gd')) ∧ Fine g ∧ GenOk (n + 100) gd' := by
  obtain ⟨w, g1, q1, q2, q3⟩ := cl_random (W := W) (k + 3) (i := 0) (S := [(0, gd)]) G rfl (by omega) 4 (by omega) (by omega)
  have q1 : callD (evC tb W (k + 5)) i_law_random [cel 0, .int 4] [(0, gd)] = some (.int w, [(0, g1)]) := q1
  by_cases hw : w = 0
  · subst hw
    obtain ⟨g, gd', h1, h2, h3⟩ := ev_square_0 (W := W) k G hn q1 q3
    exact ⟨g, gd', callD_one rfl hS h1, h2, h3⟩
  · obtain ⟨g, gd', h1, h2, h3⟩ := ev_square_1 (W := W) k G hn hW hw q1 q3
    exact ⟨g, gd', callD_one rfl hS h1, h2, h3⟩
end K50
end
section
set_option Elab.async false
set_option linter.all false
set_option maxRecDepth 100000
set_option maxHeartbeats 4000000
namespace K50
open PySem TW
variable {W : Nat}
/-! ### all codes, how many are right -/
theorem uniq_filter : ∀ {n : Nat} {p : Nat → Bool} {x0 : Nat}, x0 < n → (∀ x, x < n → (p x = true ↔ x = x0)) → (List.range n).filter p = [x0]
  | 0, _, _, h, _ => by omega
  | n + 1, p, x0, h, hp => by
    rw [List.range_succ, List.filter_append]
    by_cases e : x0 = n
    · subst e
      have h1 : (List.range x0).filter p = [] := by
        rw [List.filter_eq_nil_iff]
        intro x hx hpx
        have := List.mem_range.mp hx
        have := (hp x (by omega)).mp hpx
        omega
      rw [h1, List.nil_append, List.filter_cons_of_pos ((hp x0 (by omega)).mpr rfl), List.filter_nil]
    · have h1 : p n ≠ true := fun q => e ((hp n (by omega)).mp q).symm
      rw [List.filter_cons_of_neg h1, List.filter_nil, List.append_nil]
      exact uniq_filter (by omega) fun x hx => hp x (by omega)
def ext (n : Nat) (c : List Int) : List (List Int) := (List.range n).map fun (x : Nat) => c ++ [(x : Int)]
def allC (n : Nat) : Nat → List (List Int)
  | 0 => [[]]
  | p + 1 => (allC n p).flatMap (ext n)
theorem ext_len (n : Nat) (c : List Int) : (ext n c).length = n := by simp [ext]
theorem flat_len {n : Nat} : ∀ l : List (List Int), (l.flatMap (ext n)).length = l.length * n
  | [] => by simp
  | c :: l => by
    rw [List.flatMap_cons, List.length_append, flat_len l, ext_len, List.length_cons, Nat.add_mul, Nat.one_mul, Nat.add_comm]
theorem allC_len (n : Nat) : ∀ p : Nat, (allC n p).length = n ^ p
  | 0 => rfl
  | p + 1 => by
    show ((allC n p).flatMap (ext n)).length = _
    rw [flat_len, allC_len n p, Nat.pow_succ]
theorem allC_in (n : Nat) : ∀ (p : Nat) (c : List Int), c ∈ allC n p → c.length = p ∧ c.all (inB n) = true
  | 0, c, h => by
    have : c = [] := by simpa [allC] using h
    subst this; exact ⟨rfl, rfl⟩
  | p + 1, c, h => by
    obtain ⟨d, hd, hc⟩ := List.mem_flatMap.mp h
    obtain ⟨x, hx, rfl⟩ := List.mem_map.mp hc
    obtain ⟨h1, h2⟩ := allC_in n p d hd
    have := List.mem_range.mp hx
    refine ⟨by simp [h1], ?_⟩
    rw [List.all_append, h2]
    simp only [List.all_cons, List.all_nil, Bool.and_true, Bool.true_and]
    exact inB_iff.mpr ⟨by omega, by omega⟩
/-- the one sign that leads from t to e -/
theorem Lat.one {g : List (List Int)} (G : Lat g) {t e : Int} (ht : inB g.length t = true) (he : inB g.length e = true) : ∃ x0 : Nat, x0 < g.length ∧ ∀ x : Nat, x < g.length → (decide (ent g t x = e) = true ↔ x = x0) := by
  obtain ⟨x, h1, h2, h3⟩ := index_row G ht he []
  obtain ⟨a, b⟩ := inB_iff.mp h2
  refine ⟨x.toNat, by omega, fun y hy => ?_⟩
  rw [decide_eq_true_iff]
  constructor
  · intro q
    have := G.rinj ht (inB_iff.mpr ⟨by omega, by omega⟩ : inB g.length (y : Int) = true) h2 (q.trans h3.symm)
    omega
  · intro q
    subst q
    rw [show ((x.toNat : Nat) : Int) = x by omega]
    exact h3
theorem fin_snoc (g : List (List Int)) (s : Int) (c : List Int) (x : Int) : fin g s (c ++ [x]) = ent g (fin g s c) x := by rw [fin_app]; rfl
theorem right_ext {g : List (List Int)} (G : Lat g) {s e : Int} (hs : inB g.length s = true) (he : inB g.length e = true) (c : List Int) (hc : c.all (inB g.length) = true) : ((ext g.length c).filter fun d => decide (fin g s d = e)).length = 1 := by
  obtain ⟨x0, h1, h2⟩ := G.one (G.fin_in hs hc) he
  unfold ext
  rw [List.filter_map, List.length_map]
  have : (List.range g.length).filter ((fun d => decide (fin g s d = e)) ∘ fun (x : Nat) => c ++ [(x : Int)]) = [x0] := by
    refine uniq_filter h1 fun x hx => ?_
    show decide (fin g s (c ++ [(x : Int)]) = e) = true ↔ _
    rw [fin_snoc]
    exact h2 x hx
  rw [this]; rfl
theorem right_count {g : List (List Int)} (G : Lat g) {s e : Int} (hs : inB g.length s = true) (he : inB g.length e = true) (p : Nat) : ((allC g.length (p + 1)).filter fun d => decide (fin g s d = e)).length = g.length ^ p := by
  have go : ∀ l : List (List Int), (∀ c ∈ l, c.all (inB g.length) = true) → ((l.flatMap (ext g.length)).filter fun d => decide (fin g s d = e)).length = l.length := by
    intro l
    induction l with
    | nil => intro _; rfl
    | cons c l ih =>
      intro h
      rw [List.flatMap_cons, List.filter_append, List.length_append, right_ext G hs he c (h c (List.mem_cons_self ..)), ih fun d hd => h d (List.mem_cons_of_mem _ hd), List.length_cons, Nat.add_comm]
  show (((allC g.length p).flatMap (ext g.length)).filter _).length = _
  rw [go _ fun c hc => (allC_in g.length p c hc).2, allC_len]
/-- the evaluation -/
def inT : T := .cons (.asg (.var 4) (.bin .add (.var 4) (.lc [6] (.var 6) (.rng (.cons (.var 0) .nil)) .nil (.bin .add (.var 5) (.lst (.cons (.var 6) .nil)))))) .nil
abbrev rowsD (l : List (List Int)) : PyData := .list (l.map fun c => iL c)
theorem codes_lc (k n : Nat) (hn : n ≤ 12) (c : List Int) (hc : c.length ≤ 100) (v1 v2 v3 v4 : Option PyData) : lcLoop (lcOne tb (evC tb W k) [some (.int n), v1, v2, v3, v4, some (iL c), none] [6] (.var 6) .nil (.bin .add (.var 5) (.lst (.cons (.var 6) .nil)))) ((List.range n).map fun (i : Nat) => PyData.int i) [] [] = some ((ext n c).map fun c => iL c, []) := by
  rw [lcLoop_all (g := fun (y : Nat) => iL (c ++ [(y : Int)])) (List.range n) ?_ (le_line (by rw [List.length_range]; omega))]
  · unfold ext
    rw [List.map_map]; rfl
  · intro y hy
    have e : c.map PyData.int ++ [.int y] = (c ++ [(y : Int)]).map PyData.int := by rw [List.map_append]; rfl
    have ad := addD_ok (xs := c.map PyData.int) (ys := [.int y]) (by rw [List.length_map, List.length_singleton]; exact le_line (by omega))
    rw [e] at ad
    simp -implicitDefEqProofs only [lcOne, bnd_some, bnd_none, mpd_some, mpd_none, cnd_true, cnd_false, e_var, vl_int, vl_bool, vl_none, vl_str, vl_list, vl_tuple, vl_edict, vl_cel, vl_scr, e_int, e_str, e_bl, e_non, e_edict, e_bin, e_neg, e_cmp, e_chain, e_and, e_or, e_not, e_ite, e_tup, e_lst, e_call, e_callk, e_bi, e_mt, e_idx, e_sl, e_slr, e_lc, e_thaw, e_lrng, l_nil, l_cons, o_nil, o_cons, t_nil, t_cons, i_rng, i_cons, s_asg, s_asgm, s_asgi, s_par, s_ex, s_ret, s_retm, s_retn, s_iff, s_forr, s_whl, s_pas, s_brk, s_cnt, b_nil, b_cons, th_nx, th_rt, th_bk, th_ct, List.getElem?_cons_zero, List.getElem?_cons_succ, List.map_cons, List.map_nil, List.cons_append, List.nil_append, List.replicate_succ, List.replicate_zero, if_true, if_false, Bool.false_eq_true, Bool.not_true, Bool.not_false, peek_int, peek_bool, peek_none, peek_str, peek_list, peek_tuple, peek_edict, peek_cel, settle_int, settle_bool, settle_none, settle_str, settle_list, settle_tuple, settle_edict, isTrueD_bool, biD, one, two, kindB, tyD, lenD, intOfD, iiD, sumD, listD, tupleD, binD, addD_int, subD, mulD_int, intD, cmpD, cmpI, isD, isNon, eqD_int, eqD_str, outD_rt, outD_rtt, outD_nx, bindT, List.set_cons_zero, List.set_cons_succ, wipeE, frE, celOf_int, celOf_bool, celOf_none, celOf_str, celOf_list, celOf_tuple, celOf_edict, celOf_cel, Option.isNone_none, Option.isNone_some, Bool.and_true, Bool.true_and, Bool.and_false, Bool.false_and, Bool.or_true, Bool.true_or, Bool.or_false, Bool.false_or, beginD_list, beginD_tuple, unlock_none, unlockO, idxD_list, idxD_tuple, setsE, decide_true, decide_false, List.take_nil, List.length_nil, List.length_cons, mtD, List.set_nil, List.getElem?_nil, Nat.zero_add, decide_eq_true_eq, sb_nil, sb_t, sb_f, sb_e, sa_nil, sa_cons, Nat.reduceSub, Nat.reduceLT, Nat.reduceAdd, Nat.reduceMul, Nat.reduceLeDiff, cnd_and, cnd_or, Option.bind_some, Option.map_some, Option.bind_none, Option.map_none, List.length_map, reduceCtorEq, beq_self_eq_true, eqD_nil, line, Nat.zero_le, ixD_0, ixD_1, ixD_2, ixD_last, Int.reduceEq, Int.reduceLT, Int.reduceLE, Int.reduceNeg, Int.reduceAdd, Int.reduceSub, Int.reduceMul, Nat.reduceEqDiff, Int.cast_ofNat_Int, List.getD_cons_zero, List.getD_cons_succ, ad]
theorem codes_e (k n : Nat) (hn : n ≤ 12) (acc : List (List Int)) (c : List Int) (v1 v2 v3 v5 : Option PyData)
    (hlc : lcLoop (lcOne tb (evC tb W k) [some (.int n), v1, v2, v3, some (.list (acc.map fun c => iL c)), some (iL c), none] [6] (.var 6) .nil (.bin .add (.var 5) (.lst (.cons (.var 6) .nil)))) ((List.range n).map fun (i : Nat) => PyData.int i) [] [] = some ((ext n c).map fun c => iL c, []))
    (hr : rngD [.int n] = some ((List.range n).map fun (i : Nat) => PyData.int i)) (ad : addD (.list (acc.map fun c => iL c)) (.list ((ext n c).map fun c => iL c)) = some (.list ((acc ++ ext n c).map fun c => iL c))) :
    evE tb (evC tb W k) (.bin .add (.var 4) (.lc [6] (.var 6) (.rng (.cons (.var 0) .nil)) .nil (.bin .add (.var 5) (.lst (.cons (.var 6) .nil))))) [some (.int n), v1, v2, v3, some (.list (acc.map fun c => iL c)), some (iL c), none] [] = some (.list ((acc ++ ext n c).map fun c => iL c), []) := by
  rw [e_bin]
  have e4 : evE tb (evC tb W k) (.var 4) [some (.int n), v1, v2, v3, some (.list (acc.map fun c => iL c)), some (iL c), none] [] = some (.list (acc.map fun c => iL c), []) := rfl
  have ei : evI tb (evC tb W k) (.rng (.cons (.var 0) .nil)) [some (.int n), v1, v2, v3, some (.list (acc.map fun c => iL c)), some (iL c), none] [] = some ((List.range n).map fun (i : Nat) => PyData.int i, [], none) := by
    simp -implicitDefEqProofs only [i_rng, l_cons, l_nil, e_var, vl_int, vl_list, List.getElem?_cons_zero, bnd_some, mpd_some, hr]
  rw [e4, bnd_some, e_lc, ei, bnd_some, hlc, mpd_some, bnd_some]
  simp -implicitDefEqProofs only [unlock_none, peek_list, binD, ad, mpd_some]
theorem codes_in (k n : Nat) (hn : n ≤ 12) (acc : List (List Int)) (c : List Int) (hc : c.length ≤ 100) (hacc : acc.length ≤ 900000) (v1 v2 v3 v5 : Option PyData) :
    bodyF tb (evC tb W k) W 0 inT [some (.int n), v1, v2, v3, some (rowsD acc), some (iL c), none] [] = some (.nx [some (.int n), v1, v2, v3, some (rowsD (acc ++ ext n c)), some (iL c), none] []) := by
  have hlc := codes_lc (W := W) k n hn c hc v1 v2 v3 (some (.list (acc.map fun c => iL c)))
  have hr := rngD_one (show n < 2 ^ 62 by omega)
  have hl1 : acc.length + n ≤ line := le_line (by omega)
  have ad := addD_ok (xs := acc.map fun c => iL c) (ys := (ext n c).map fun c => iL c) (by rw [List.length_map, List.length_map, ext_len]; exact hl1)
  rw [← List.map_append] at ad
  have he := codes_e (W := W) k n hn acc c v1 v2 v3 none hlc hr ad
  show evB tb (evC tb W k) W 0 inT _ _ = _
  unfold inT
  rw [b_cons, s_asg, he, bnd_some]
  simp -implicitDefEqProofs only [settle_list, bnd_some, bindT, mpd_some, th_nx, b_nil, List.length_cons, List.length_nil, Nat.reduceAdd, Nat.reduceLT, if_true, List.set_cons_succ, List.set_cons_zero]
theorem flat_take {n : Nat} {l : List (List Int)} {i : Nat} {c : List Int} (h : l[i]? = some c) : (l.take (i + 1)).flatMap (ext n) = (l.take i).flatMap (ext n) ++ ext n c := by
  rw [List.take_add_one, h, List.flatMap_append]
  simp
theorem codes_loop (k n : Nat) (hn : n ≤ 12) (v1 v2 v3 v5 : Option PyData) (l : List (List Int)) (hc : ∀ c ∈ l, c.length ≤ 100) (hl : l.length ≤ 20736) :
    ∃ w5, forLoop (.var 5) (bodyF tb (evC tb W k) W 0 inT) (l.map fun c => iL c) [some (.int n), v1, v2, v3, some (rowsD []), v5, none] [] = some (.nx [some (.int n), v1, v2, v3, some (rowsD (l.flatMap (ext n))), w5, none] []) := by
  obtain ⟨env', S', h1, w5, h2, h3⟩ := forLoop_ind (tg := .var 5) (g := fun c => iL c) (body := bodyF tb (evC tb W k) W 0 inT)
    (fun i env S => ∃ w5, env = [some (.int n), v1, v2, v3, some (rowsD ((l.take i).flatMap (ext n))), w5, none] ∧ S = []) l
    (env := [some (.int n), v1, v2, v3, some (rowsD []), v5, none]) (S := []) ⟨v5, rfl, rfl⟩ (by
      rintro i c env S ha ⟨w5, rfl, rfl⟩
      have hlen : ((l.take i).flatMap (ext n)).length ≤ 900000 := by
        rw [flat_len]
        have h1 : (l.take i).length ≤ 20736 := by rw [List.length_take]; omega
        have := Nat.mul_le_mul h1 hn
        omega
      have hb := codes_in (W := W) k n hn ((l.take i).flatMap (ext n)) c (hc c (List.mem_of_getElem? ha)) hlen v1 v2 v3 w5
      rw [← flat_take ha] at hb
      have hbind : bindT (.var 5) (iL c) [some (.int n), v1, v2, v3, some (rowsD ((l.take i).flatMap (ext n))), w5, none] = some [some (.int n), v1, v2, v3, some (rowsD ((l.take i).flatMap (ext n))), some (iL c), none] := by
        simp -implicitDefEqProofs only [bindT, List.length_cons, List.length_nil, Nat.reduceAdd, Nat.reduceLT, if_true, List.set_cons_succ, List.set_cons_zero]
      exact ⟨_, _, [], hbind, .inl hb, ⟨_, rfl, rfl⟩⟩)
  subst h2 h3
  rw [List.take_length] at h1
  exact ⟨w5, h1⟩
def outT : T := .cons (.asg (.var 4) (.lst .nil)) (.cons (.forr (.var 5) (.cons (.var 2) .nil) inT) (.cons (.asg (.var 2) (.var 4)) .nil))
theorem codes_out (k n : Nat) (hn : n ≤ 12) (l : List (List Int)) (hl : l.length ≤ 20736) (hc : ∀ c ∈ l, c.length ≤ 100) (v1 v3 v4 v5 : Option PyData) :
    ∃ w5, bodyF tb (evC tb W k) W 0 outT [some (.int n), v1, some (rowsD l), v3, v4, v5, none] [] = some (.nx [some (.int n), v1, some (rowsD (l.flatMap (ext n))), v3, some (rowsD (l.flatMap (ext n))), w5, none] []) := by
  obtain ⟨w5, h⟩ := codes_loop (W := W) k n hn v1 (some (rowsD l)) v3 v5 l hc hl
  refine ⟨w5, ?_⟩
  show evB tb (evC tb W k) W 0 outT _ _ = _
  unfold outT
  have h1 : evS tb (evC tb W k) W 0 (.asg (.var 4) (.lst .nil)) [some (.int n), v1, some (rowsD l), v3, v4, v5, none] [] = some (.nx [some (.int n), v1, some (rowsD l), v3, some (rowsD []), v5, none] []) := by
    rw [s_asg, e_lst, l_nil, bnd_some, sa_nil, bnd_some]
    simp -implicitDefEqProofs only [List.length_nil, Nat.zero_le, if_true, settle_list, bnd_some, bindT, mpd_some, List.length_cons, Nat.reduceAdd, Nat.reduceLT, List.set_cons_succ, List.set_cons_zero, List.map_nil]
    rfl
  have h2 : evS tb (evC tb W k) W 0 (.forr (.var 5) (.cons (.var 2) .nil) inT) [some (.int n), v1, some (rowsD l), v3, some (rowsD []), v5, none] [] = some (.nx [some (.int n), v1, some (rowsD l), v3, some (rowsD (l.flatMap (ext n))), w5, none] []) := by
    have hi : evI tb (evC tb W k) (.cons (.var 2) .nil) [some (.int n), v1, some (rowsD l), v3, some (rowsD []), v5, none] [] = some (l.map (fun c => iL c), [], none) := rfl
    rw [s_forr, hi, bnd_some, h, mpd_some]
    rfl
  rw [b_cons, h1, bnd_some, th_nx, b_cons, h2, bnd_some, th_nx, b_cons, s_asg, e_var]
  simp -implicitDefEqProofs only [List.getElem?_cons_succ, List.getElem?_cons_zero, vl_list, settle_list, bnd_some, bindT, mpd_some, List.length_cons, List.length_nil, Nat.reduceAdd, Nat.reduceLT, if_true, List.set_cons_succ, List.set_cons_zero, th_nx, b_nil]
theorem pow_le {n p : Nat} (hn : n ≤ 12) (hp : p ≤ 4) : n ^ p ≤ 20736 := by
  have h1 : n ^ p ≤ 12 ^ p := Nat.pow_le_pow_left hn p
  have h2 : 12 ^ p ≤ 12 ^ 4 := Nat.pow_le_pow_right (by omega) hp
  have h3 : (12 : Nat) ^ 4 = 20736 := by decide
  omega
theorem cl_all_codes (k n p : Nat) (hn : n ≤ 12) (hp : p ≤ 4) (S : Sto) : callD (evC tb W (k + 1)) i_law_all_codes [.int n, .int p] S = some (rowsD (allC n p), S) :=
  callD_plain rfl (by
    rw [evC_run (fn := f_law_all_codes) rfl rfl]
    obtain ⟨env', S', h1, w3, w4, w5, h2, h3⟩ := forLoop_ind (tg := .var 3) (g := fun (i : Nat) => PyData.int i) (body := bodyF tb (evC tb W k) W 0 outT)
      (fun i env S => ∃ w3 w4 w5, env = [some (.int n), some (.int p), some (rowsD (allC n i)), w3, w4, w5, none] ∧ S = []) (List.range p)
      (env := [some (.int n), some (.int p), some (rowsD (allC n 0)), none, none, none, none]) (S := []) ⟨none, none, none, rfl, rfl⟩ (by
        rintro i a env S ha ⟨w3, w4, w5, rfl, rfl⟩
        have hi : i < p := by have := (List.getElem?_eq_some_iff.mp ha).1; simpa using this
        obtain ⟨x5, hx⟩ := codes_out (W := W) k n hn (allC n i) (by rw [allC_len]; exact pow_le hn (by omega)) (fun c hc => by rw [(allC_in n i c hc).1]; omega) (some (.int p)) (some (.int a)) w4 w5
        exact ⟨_, _, [], rfl, .inl hx, ⟨some (.int a), _, x5, rfl, rfl⟩⟩)
    subst h2 h3
    rw [List.length_range] at h1
    show bnd (evB tb (evC tb W k) W 0 t_law_all_codes [some (.int n), some (.int p), none, none, none, none, none] []) _ _ = _
    have e1 : evS tb (evC tb W k) W 0 (.asg (.var 2) (.lst (.cons (.lst .nil) .nil))) [some (.int n), some (.int p), none, none, none, none, none] [] = some (.nx [some (.int n), some (.int p), some (rowsD (allC n 0)), none, none, none, none] []) := rfl
    have e2 : evS tb (evC tb W k) W 0 (.forr (.var 3) (.rng (.cons (.var 1) .nil)) outT) [some (.int n), some (.int p), some (rowsD (allC n 0)), none, none, none, none] [] = some (.nx [some (.int n), some (.int p), some (rowsD (allC n p)), w3, w4, w5, none] []) := by
      have ei : evI tb (evC tb W k) (.rng (.cons (.var 1) .nil)) [some (.int n), some (.int p), some (rowsD (allC n 0)), none, none, none, none] [] = some ((List.range p).map fun (i : Nat) => PyData.int i, [], none) := by
        have hr := rngD_one (show p < 2 ^ 62 by omega)
        simp -implicitDefEqProofs only [i_rng, l_cons, l_nil, e_var, vl_int, vl_list, List.getElem?_cons_zero, List.getElem?_cons_succ, bnd_some, mpd_some, hr]
      rw [s_forr, ei, bnd_some, h1, mpd_some]
      rfl
    have et : t_law_all_codes = .cons (.asg (.var 2) (.lst (.cons (.lst .nil) .nil))) (.cons (.forr (.var 3) (.rng (.cons (.var 1) .nil)) outT) (.cons (.ret (.var 2)) .nil)) := rfl
    rw [et, b_cons, e1, bnd_some, th_nx, b_cons, e2, bnd_some, th_nx, b_cons, s_ret, e_var]
    simp -implicitDefEqProofs only [List.getElem?_cons_succ, List.getElem?_cons_zero, vl_list, settle_list, bnd_some, mpd_some, th_rt, outD_rt, List.take_nil])
end K50
end
section
set_option Elab.async false
set_option linter.all false
set_option maxRecDepth 100000
set_option maxHeartbeats 4000000
namespace TW
open PySem
def enD (S : Sto) : PyData → Option (List PyData × Sto × Option Nat)
  | .tuple _ => none
  | d => (beginD S d).map fun q => (numbered 0 q.1, q.2.1, q.2.2)
theorem i_enumr (tb : Tb) (F : Clf) (env : Evn) (S : Sto) (e : T) : evI tb F (.enumr e) env S = bnd (evE tb F e env S) (fun r => enD r.2 r.1) ⟨⟩ := by
  show (evE tb F e env S).bind _ = (evE tb F e env S).bind _
  refine congrArg _ (funext fun r => ?_)
  obtain ⟨d, S1⟩ := r
  cases d <;> rfl
theorem enD_list (S : Sto) (ds : List PyData) : enD S (.list ds) = some (numbered 0 ds, S, none) := rfl
theorem numbered_at : ∀ (ds : List PyData) (k i : Nat), (numbered k ds)[i]? = (ds[i]?).map fun d => .tuple [.int (k + i : Nat), d]
  | [], _, _ => by simp [numbered]
  | d :: ds, k, 0 => by simp [numbered]
  | d :: ds, k, i + 1 => by
    simp only [numbered, List.getElem?_cons_succ]
    rw [numbered_at ds (k + 1) i]
    congr 2
    funext d
    congr 3
    omega
theorem numbered_rows (g : List (List Int)) : numbered 0 (g.map fun r => iL r) = (List.range g.length).map fun (i : Nat) => PyData.tuple [.int i, iL (g.getD i [])] := by
  apply List.ext_getElem?
  intro i
  rw [numbered_at, List.getElem?_map, List.getElem?_map]
  by_cases h : i < g.length
  · rw [List.getElem?_eq_getElem h, List.getElem?_range h]
    simp only [Option.map_some, Nat.zero_add, List.getD_eq_getElem?_getD, List.getElem?_eq_getElem h, Option.getD_some]
  · rw [List.getElem?_eq_none (by omega), List.getElem?_eq_none (by rw [List.length_range]; omega)]
    rfl
theorem numbered_ints (l : List Int) : numbered 0 (l.map .int) = (List.range l.length).map fun (i : Nat) => PyData.tuple [.int i, .int (l.getD i 0)] := by
  apply List.ext_getElem?
  intro i
  rw [numbered_at, List.getElem?_map, List.getElem?_map]
  by_cases h : i < l.length
  · rw [List.getElem?_eq_getElem h, List.getElem?_range h]
    simp only [Option.map_some, Nat.zero_add, List.getD_eq_getElem?_getD, List.getElem?_eq_getElem h, Option.getD_some]
  · rw [List.getElem?_eq_none (by omega), List.getElem?_eq_none (by rw [List.length_range]; omega)]
    rfl
end TW
namespace K50
open PySem TW
variable {W : Nat}
/-! ### exchanges that pass -/
def passB (g : List (List Int)) (s a b : Int) : Bool := decide (ent g (ent g s a) b = ent g (ent g s b) a)
def swI (g : List (List Int)) (s a : Nat) (l : List Nat) : List (Nat × Nat × Nat) := (l.filter fun (b : Nat) => passB g s a b).map fun b => (s, a, b)
def swM (g : List (List Int)) (s : Nat) (l : List Nat) : List (Nat × Nat × Nat) := l.flatMap fun a => swI g s a ((List.range g.length).drop (a + 1))
def swL (g : List (List Int)) : List (Nat × Nat × Nat) := (List.range g.length).flatMap fun s => swM g s (List.range g.length)
def triD (t : Nat × Nat × Nat) : PyData := .tuple [.int t.1, .int t.2.1, .int t.2.2]
abbrev gD (g : List (List Int)) : PyData := .list (g.map fun r => iL r)
theorem swI_len (g : List (List Int)) (s a : Nat) (l : List Nat) : (swI g s a l).length ≤ l.length := by
  unfold swI
  rw [List.length_map]
  exact List.length_filter_le ..
theorem flat_le {α β : Type} {f : α → List β} {m : Nat} : ∀ {l : List α}, (∀ a ∈ l, (f a).length ≤ m) → (l.flatMap f).length ≤ l.length * m
  | [], _ => by simp
  | a :: l, h => by
    rw [List.flatMap_cons, List.length_append, List.length_cons, Nat.add_mul, Nat.one_mul]
    have h1 := h a (List.mem_cons_self ..)
    have h2 := flat_le (l := l) fun b hb => h b (List.mem_cons_of_mem _ hb)
    omega
theorem swM_len (g : List (List Int)) (hg : g.length ≤ 12) (s : Nat) (l : List Nat) (hl : l.length ≤ 12) : (swM g s l).length ≤ 144 := by
  have := flat_le (f := fun a => swI g s a ((List.range g.length).drop (a + 1))) (m := 12) (l := l) fun a _ => Nat.le_trans (swI_len ..) (by rw [List.length_drop, List.length_range]; omega)
  unfold swM
  omega
theorem flat_snoc {α β : Type} (f : α → List β) {l : List α} {i : Nat} {c : α} (h : l[i]? = some c) : (l.take (i + 1)).flatMap f = (l.take i).flatMap f ++ f c := by
  rw [List.take_add_one, h, List.flatMap_append]
  simp
theorem swI_snoc (g : List (List Int)) (s a : Nat) {l : List Nat} {i b : Nat} (h : l[i]? = some b) : swI g s a (l.take (i + 1)) = swI g s a (l.take i) ++ if passB g s a b then [(s, a, b)] else [] := by
  unfold swI
  rw [List.take_add_one, h, List.filter_append, List.map_append]
  cases hp : passB g s a b <;> simp [hp]
theorem appT {acc : List PyData} {d : PyData} (hl : acc.length ≤ 1000000) (hs : ∀ S, settle S d = some (d, S)) : appD [(0, .list acc)] (cel 0) [d] = some (.none, [(0, .list (acc ++ [d]))]) := by
  unfold appD
  rw [celOf_cel]
  simp only [hs, Option.bind_some, List.getElem?_cons_zero]
  rw [if_pos (lt_line hl)]
  rfl
theorem drop_range (n k : Nat) : ((List.range n).drop k).map (fun (i : Nat) => PyData.int i) = intRange (k : Int) (n - k) := by
  unfold intRange
  apply List.ext_getElem
  · simp
  · intro i h1 h2
    simp
theorem rngD_from (k n : Nat) (hk : k ≤ 1000) (hn : n ≤ 1000) : rngD [.int ((k : Int) + 1), .int n] = some (((List.range n).drop (k + 1)).map fun (i : Nat) => PyData.int i) := by
  unfold rngD
  have e : (decide (-(2 ^ 62) ≤ (k : Int) + 1) && decide ((k : Int) + 1 < 2 ^ 62) && decide (-(2 ^ 62) ≤ (n : Int)) && decide ((n : Int) < 2 ^ 62)) = true := by
    simp only [Bool.and_eq_true, decide_eq_true_eq]
    omega
  simp only [e, if_true]
  rw [drop_range]
  exact congrArg some (by rw [show ((n : Int) - ((k : Int) + 1)).toNat = n - (k + 1) by omega]; rfl)
def lsIn : T := (.cons (.iff (.cmp .eq (.idx (.idx (.var 0) (.idx (.idx (.var 0) (.var 2)) (.var 3))) (.var 4)) (.idx (.idx (.var 0) (.idx (.idx (.var 0) (.var 2)) (.var 4))) (.var 3))) (.cons (.ex (.mt .append (.var 1) (.cons (.tup (.cons (.var 2) (.cons (.var 3) (.cons (.var 4) .nil)))) .nil))) .nil) .nil) .nil)
def lsMid : T := (.cons (.forr (.var 4) (.rng (.cons (.bin .add (.var 3) (.int 1)) (.cons (.bi .len (.cons (.var 0) .nil)) .nil))) lsIn) .nil)
def lsOut : T := (.cons (.forr (.var 3) (.rng (.cons (.bi .len (.cons (.var 0) .nil)) .nil)) lsMid) .nil)
theorem ls_t : t_law_swaps = .cons (.asgm 1 (.lst .nil)) (.cons (.forr (.var 2) (.rng (.cons (.bi .len (.cons (.var 0) .nil)) .nil)) lsOut) (.cons (.retm 1) .nil)) := rfl
section
variable {g : List (List Int)} (G : Lat g) (h12 : g.length ≤ 12) (k : Nat)
include G h12
theorem ls_in (acc : List PyData) (hacc : acc.length ≤ 100000) {s a b : Nat} (hs : s < g.length) (ha : a < g.length) (hb : b < g.length) :
    bodyF tb (evC tb W k) W 0 lsIn [some (gD g), some (cel 0), some (.int s), some (.int a), some (.int b)] [(0, .list acc)]
      = some (.nx [some (gD g), some (cel 0), some (.int s), some (.int a), some (.int b)] [(0, .list (acc ++ (if passB g s a b then [(s, a, b)] else []).map triD))]) := by
  have is : inB g.length (s : Int) = true := inB_iff.mpr ⟨by omega, by omega⟩
  have ia : inB g.length (a : Int) = true := inB_iff.mpr ⟨by omega, by omega⟩
  have ib : inB g.length (b : Int) = true := inB_iff.mpr ⟨by omega, by omega⟩
  have sa := G.ent_in is ia
  have sb := G.ent_in is ib
  have ap := appT (acc := acc) (d := triD (s, a, b)) (by omega) fun _ => rfl
  unfold triD at ap
  simp only at ap
  cases h : passB g s a b with
  | true =>
    have h' : decide (ent g (ent g s a) b = ent g (ent g s b) a) = true := h
    simp only [if_true, List.map_cons, List.map_nil]
    unfold triD
    simp -implicitDefEqProofs only [bodyF, lsIn, bnd_some, bnd_none, mpd_some, mpd_none, cnd_true, cnd_false, e_var, vl_int, vl_bool, vl_none, vl_str, vl_list, vl_tuple, vl_edict, vl_cel, vl_scr, e_int, e_str, e_bl, e_non, e_edict, e_bin, e_neg, e_cmp, e_chain, e_and, e_or, e_not, e_ite, e_tup, e_lst, e_call, e_callk, e_bi, e_mt, e_idx, e_sl, e_slr, e_lc, e_thaw, e_lrng, l_nil, l_cons, o_nil, o_cons, t_nil, t_cons, i_rng, i_cons, s_asg, s_asgm, s_asgi, s_par, s_ex, s_ret, s_retm, s_retn, s_iff, s_forr, s_whl, s_pas, s_brk, s_cnt, b_nil, b_cons, th_nx, th_rt, th_bk, th_ct, List.getElem?_cons_zero, List.getElem?_cons_succ, List.map_cons, List.map_nil, List.cons_append, List.nil_append, List.replicate_succ, List.replicate_zero, if_true, if_false, Bool.false_eq_true, Bool.not_true, Bool.not_false, peek_int, peek_bool, peek_none, peek_str, peek_list, peek_tuple, peek_edict, peek_cel, settle_int, settle_bool, settle_none, settle_str, settle_list, settle_tuple, settle_edict, isTrueD_bool, biD, one, two, kindB, tyD, lenD, intOfD, iiD, sumD, listD, tupleD, binD, addD_int, subD, mulD_int, intD, cmpD, cmpI, isD, isNon, eqD_int, eqD_str, outD_rt, outD_rtt, outD_nx, bindT, List.set_cons_zero, List.set_cons_succ, wipeE, frE, celOf_int, celOf_bool, celOf_none, celOf_str, celOf_list, celOf_tuple, celOf_edict, celOf_cel, Option.isNone_none, Option.isNone_some, Bool.and_true, Bool.true_and, Bool.and_false, Bool.false_and, Bool.or_true, Bool.true_or, Bool.or_false, Bool.false_or, beginD_list, beginD_tuple, unlock_none, unlockO, idxD_list, idxD_tuple, setsE, decide_true, decide_false, List.take_nil, List.length_nil, List.length_cons, mtD, List.set_nil, List.getElem?_nil, Nat.zero_add, decide_eq_true_eq, sb_nil, sb_t, sb_f, sb_e, sa_nil, sa_cons, Nat.reduceSub, Nat.reduceLT, Nat.reduceAdd, Nat.reduceMul, Nat.reduceLeDiff, cnd_and, cnd_or, Option.bind_some, Option.map_some, Option.bind_none, Option.map_none, List.length_map, reduceCtorEq, beq_self_eq_true, eqD_nil, line, Nat.zero_le, ixD_0, ixD_1, ixD_2, ixD_last, Int.reduceEq, Int.reduceLT, Int.reduceLE, Int.reduceNeg, Int.reduceAdd, Int.reduceSub, Int.reduceMul, Nat.reduceEqDiff, Int.cast_ofNat_Int, List.getD_cons_zero, List.getD_cons_succ, ixD_int is, ixD_int ia, ixD_int ib, ixD_int sa, ixD_int sb, G.get1 is, G.get1 sa, G.get1 sb, G.len1 is, G.len1 sa, G.len1 sb, G.get2 is ia, G.get2 is ib, G.get2 sa ib, G.get2 sb ia, h', ap]
  | false =>
    have h' : decide (ent g (ent g s a) b = ent g (ent g s b) a) = false := h
    simp only [Bool.false_eq_true, if_false, List.map_nil, List.append_nil]
    simp -implicitDefEqProofs only [bodyF, lsIn, bnd_some, bnd_none, mpd_some, mpd_none, cnd_true, cnd_false, e_var, vl_int, vl_bool, vl_none, vl_str, vl_list, vl_tuple, vl_edict, vl_cel, vl_scr, e_int, e_str, e_bl, e_non, e_edict, e_bin, e_neg, e_cmp, e_chain, e_and, e_or, e_not, e_ite, e_tup, e_lst, e_call, e_callk, e_bi, e_mt, e_idx, e_sl, e_slr, e_lc, e_thaw, e_lrng, l_nil, l_cons, o_nil, o_cons, t_nil, t_cons, i_rng, i_cons, s_asg, s_asgm, s_asgi, s_par, s_ex, s_ret, s_retm, s_retn, s_iff, s_forr, s_whl, s_pas, s_brk, s_cnt, b_nil, b_cons, th_nx, th_rt, th_bk, th_ct, List.getElem?_cons_zero, List.getElem?_cons_succ, List.map_cons, List.map_nil, List.cons_append, List.nil_append, List.replicate_succ, List.replicate_zero, if_true, if_false, Bool.false_eq_true, Bool.not_true, Bool.not_false, peek_int, peek_bool, peek_none, peek_str, peek_list, peek_tuple, peek_edict, peek_cel, settle_int, settle_bool, settle_none, settle_str, settle_list, settle_tuple, settle_edict, isTrueD_bool, biD, one, two, kindB, tyD, lenD, intOfD, iiD, sumD, listD, tupleD, binD, addD_int, subD, mulD_int, intD, cmpD, cmpI, isD, isNon, eqD_int, eqD_str, outD_rt, outD_rtt, outD_nx, bindT, List.set_cons_zero, List.set_cons_succ, wipeE, frE, celOf_int, celOf_bool, celOf_none, celOf_str, celOf_list, celOf_tuple, celOf_edict, celOf_cel, Option.isNone_none, Option.isNone_some, Bool.and_true, Bool.true_and, Bool.and_false, Bool.false_and, Bool.or_true, Bool.true_or, Bool.or_false, Bool.false_or, beginD_list, beginD_tuple, unlock_none, unlockO, idxD_list, idxD_tuple, setsE, decide_true, decide_false, List.take_nil, List.length_nil, List.length_cons, mtD, List.set_nil, List.getElem?_nil, Nat.zero_add, decide_eq_true_eq, sb_nil, sb_t, sb_f, sb_e, sa_nil, sa_cons, Nat.reduceSub, Nat.reduceLT, Nat.reduceAdd, Nat.reduceMul, Nat.reduceLeDiff, cnd_and, cnd_or, Option.bind_some, Option.map_some, Option.bind_none, Option.map_none, List.length_map, reduceCtorEq, beq_self_eq_true, eqD_nil, line, Nat.zero_le, ixD_0, ixD_1, ixD_2, ixD_last, Int.reduceEq, Int.reduceLT, Int.reduceLE, Int.reduceNeg, Int.reduceAdd, Int.reduceSub, Int.reduceMul, Nat.reduceEqDiff, Int.cast_ofNat_Int, List.getD_cons_zero, List.getD_cons_succ, ixD_int is, ixD_int ia, ixD_int ib, ixD_int sa, ixD_int sb, G.get1 is, G.get1 sa, G.get1 sb, G.len1 is, G.len1 sa, G.len1 sb, G.get2 is ia, G.get2 is ib, G.get2 sa ib, G.get2 sb ia, h']
theorem ls_mid (acc : List PyData) (hacc : acc.length ≤ 50000) {s a : Nat} (hs : s < g.length) (ha : a < g.length) (v4 : Option PyData) :
    ∃ w4, bodyF tb (evC tb W k) W 0 lsMid [some (gD g), some (cel 0), some (.int s), some (.int a), v4] [(0, .list acc)]
      = some (.nx [some (gD g), some (cel 0), some (.int s), some (.int a), w4] [(0, .list (acc ++ (swI g s a ((List.range g.length).drop (a + 1))).map triD))]) := by
  obtain ⟨env', S', h1, w4, h2, h3⟩ := forLoop_ind (tg := .var 4) (g := fun (i : Nat) => PyData.int i) (body := bodyF tb (evC tb W k) W 0 lsIn)
    (fun i env S => ∃ w4, env = [some (gD g), some (cel 0), some (.int s), some (.int a), w4] ∧ S = [(0, .list (acc ++ (swI g s a (((List.range g.length).drop (a + 1)).take i)).map triD))]) ((List.range g.length).drop (a + 1))
    (env := [some (gD g), some (cel 0), some (.int s), some (.int a), v4]) (S := [(0, .list acc)]) ⟨v4, rfl, by simp [swI]⟩ (by
      rintro i b env S hb ⟨w4, rfl, rfl⟩
      have hbn : b < g.length := List.mem_range.mp (List.mem_of_mem_drop (List.mem_of_getElem? hb))
      have hlen : (swI g s a (((List.range g.length).drop (a + 1)).take i)).length ≤ 12 := Nat.le_trans (swI_len ..) (by rw [List.length_take, List.length_drop, List.length_range]; omega)
      have hi := ls_in (W := W) G h12 k (acc ++ (swI g s a (((List.range g.length).drop (a + 1)).take i)).map triD) (by rw [List.length_append, List.length_map]; omega) hs ha hbn
      rw [List.append_assoc, ← List.map_append, ← swI_snoc g s a hb] at hi
      exact ⟨_, _, _, rfl, .inl hi, ⟨_, rfl, rfl⟩⟩)
  subst h2 h3
  rw [List.take_length] at h1
  refine ⟨w4, ?_⟩
  have hr := rngD_from a g.length (by omega) (by omega)
  simp -implicitDefEqProofs only [bodyF, lsMid, bnd_some, bnd_none, mpd_some, mpd_none, cnd_true, cnd_false, e_var, vl_int, vl_bool, vl_none, vl_str, vl_list, vl_tuple, vl_edict, vl_cel, vl_scr, e_int, e_str, e_bl, e_non, e_edict, e_bin, e_neg, e_cmp, e_chain, e_and, e_or, e_not, e_ite, e_tup, e_lst, e_call, e_callk, e_bi, e_mt, e_idx, e_sl, e_slr, e_lc, e_thaw, e_lrng, l_nil, l_cons, o_nil, o_cons, t_nil, t_cons, i_rng, i_cons, s_asg, s_asgm, s_asgi, s_par, s_ex, s_ret, s_retm, s_retn, s_iff, s_forr, s_whl, s_pas, s_brk, s_cnt, b_nil, b_cons, th_nx, th_rt, th_bk, th_ct, List.getElem?_cons_zero, List.getElem?_cons_succ, List.map_cons, List.map_nil, List.cons_append, List.nil_append, List.replicate_succ, List.replicate_zero, if_true, if_false, Bool.false_eq_true, Bool.not_true, Bool.not_false, peek_int, peek_bool, peek_none, peek_str, peek_list, peek_tuple, peek_edict, peek_cel, settle_int, settle_bool, settle_none, settle_str, settle_list, settle_tuple, settle_edict, isTrueD_bool, biD, one, two, kindB, tyD, lenD, intOfD, iiD, sumD, listD, tupleD, binD, addD_int, subD, mulD_int, intD, cmpD, cmpI, isD, isNon, eqD_int, eqD_str, outD_rt, outD_rtt, outD_nx, bindT, List.set_cons_zero, List.set_cons_succ, wipeE, frE, celOf_int, celOf_bool, celOf_none, celOf_str, celOf_list, celOf_tuple, celOf_edict, celOf_cel, Option.isNone_none, Option.isNone_some, Bool.and_true, Bool.true_and, Bool.and_false, Bool.false_and, Bool.or_true, Bool.true_or, Bool.or_false, Bool.false_or, beginD_list, beginD_tuple, unlock_none, unlockO, idxD_list, idxD_tuple, setsE, decide_true, decide_false, List.take_nil, List.length_nil, List.length_cons, mtD, List.set_nil, List.getElem?_nil, Nat.zero_add, decide_eq_true_eq, sb_nil, sb_t, sb_f, sb_e, sa_nil, sa_cons, Nat.reduceSub, Nat.reduceLT, Nat.reduceAdd, Nat.reduceMul, Nat.reduceLeDiff, cnd_and, cnd_or, Option.bind_some, Option.map_some, Option.bind_none, Option.map_none, List.length_map, reduceCtorEq, beq_self_eq_true, eqD_nil, line, Nat.zero_le, ixD_0, ixD_1, ixD_2, ixD_last, Int.reduceEq, Int.reduceLT, Int.reduceLE, Int.reduceNeg, Int.reduceAdd, Int.reduceSub, Int.reduceMul, Nat.reduceEqDiff, Int.cast_ofNat_Int, List.getD_cons_zero, List.getD_cons_succ, hr, h1]
theorem ls_out (acc : List PyData) (hacc : acc.length ≤ 10000) {s : Nat} (hs : s < g.length) (v3 v4 : Option PyData) :
    ∃ w3 w4, bodyF tb (evC tb W k) W 0 lsOut [some (gD g), some (cel 0), some (.int s), v3, v4] [(0, .list acc)]
      = some (.nx [some (gD g), some (cel 0), some (.int s), w3, w4] [(0, .list (acc ++ (swM g s (List.range g.length)).map triD))]) := by
  obtain ⟨env', S', h1, w3, w4, h2, h3⟩ := forLoop_ind (tg := .var 3) (g := fun (i : Nat) => PyData.int i) (body := bodyF tb (evC tb W k) W 0 lsMid)
    (fun i env S => ∃ w3 w4, env = [some (gD g), some (cel 0), some (.int s), w3, w4] ∧ S = [(0, .list (acc ++ (swM g s ((List.range g.length).take i)).map triD))]) (List.range g.length)
    (env := [some (gD g), some (cel 0), some (.int s), v3, v4]) (S := [(0, .list acc)]) ⟨v3, v4, rfl, by simp [swM]⟩ (by
      rintro i a env S ha ⟨w3, w4, rfl, rfl⟩
      have han : a < g.length := List.mem_range.mp (List.mem_of_getElem? ha)
      have hlen := swM_len g h12 s ((List.range g.length).take i) (by rw [List.length_take, List.length_range]; omega)
      obtain ⟨x4, hi⟩ := ls_mid (W := W) G h12 k (acc ++ (swM g s ((List.range g.length).take i)).map triD) (by rw [List.length_append, List.length_map]; omega) hs han w4
      have es : swM g s ((List.range g.length).take (i + 1)) = swM g s ((List.range g.length).take i) ++ swI g s a ((List.range g.length).drop (a + 1)) := flat_snoc _ ha
      rw [List.append_assoc, ← List.map_append, ← es] at hi
      exact ⟨_, _, _, rfl, .inl hi, ⟨_, _, rfl, rfl⟩⟩)
  subst h2 h3
  rw [List.take_length] at h1
  refine ⟨w3, w4, ?_⟩
  have hr := rngD_one (show g.length < 2 ^ 62 by omega)
  simp -implicitDefEqProofs only [bodyF, lsOut, bnd_some, bnd_none, mpd_some, mpd_none, cnd_true, cnd_false, e_var, vl_int, vl_bool, vl_none, vl_str, vl_list, vl_tuple, vl_edict, vl_cel, vl_scr, e_int, e_str, e_bl, e_non, e_edict, e_bin, e_neg, e_cmp, e_chain, e_and, e_or, e_not, e_ite, e_tup, e_lst, e_call, e_callk, e_bi, e_mt, e_idx, e_sl, e_slr, e_lc, e_thaw, e_lrng, l_nil, l_cons, o_nil, o_cons, t_nil, t_cons, i_rng, i_cons, s_asg, s_asgm, s_asgi, s_par, s_ex, s_ret, s_retm, s_retn, s_iff, s_forr, s_whl, s_pas, s_brk, s_cnt, b_nil, b_cons, th_nx, th_rt, th_bk, th_ct, List.getElem?_cons_zero, List.getElem?_cons_succ, List.map_cons, List.map_nil, List.cons_append, List.nil_append, List.replicate_succ, List.replicate_zero, if_true, if_false, Bool.false_eq_true, Bool.not_true, Bool.not_false, peek_int, peek_bool, peek_none, peek_str, peek_list, peek_tuple, peek_edict, peek_cel, settle_int, settle_bool, settle_none, settle_str, settle_list, settle_tuple, settle_edict, isTrueD_bool, biD, one, two, kindB, tyD, lenD, intOfD, iiD, sumD, listD, tupleD, binD, addD_int, subD, mulD_int, intD, cmpD, cmpI, isD, isNon, eqD_int, eqD_str, outD_rt, outD_rtt, outD_nx, bindT, List.set_cons_zero, List.set_cons_succ, wipeE, frE, celOf_int, celOf_bool, celOf_none, celOf_str, celOf_list, celOf_tuple, celOf_edict, celOf_cel, Option.isNone_none, Option.isNone_some, Bool.and_true, Bool.true_and, Bool.and_false, Bool.false_and, Bool.or_true, Bool.true_or, Bool.or_false, Bool.false_or, beginD_list, beginD_tuple, unlock_none, unlockO, idxD_list, idxD_tuple, setsE, decide_true, decide_false, List.take_nil, List.length_nil, List.length_cons, mtD, List.set_nil, List.getElem?_nil, Nat.zero_add, decide_eq_true_eq, sb_nil, sb_t, sb_f, sb_e, sa_nil, sa_cons, Nat.reduceSub, Nat.reduceLT, Nat.reduceAdd, Nat.reduceMul, Nat.reduceLeDiff, cnd_and, cnd_or, Option.bind_some, Option.map_some, Option.bind_none, Option.map_none, List.length_map, reduceCtorEq, beq_self_eq_true, eqD_nil, line, Nat.zero_le, ixD_0, ixD_1, ixD_2, ixD_last, Int.reduceEq, Int.reduceLT, Int.reduceLE, Int.reduceNeg, Int.reduceAdd, Int.reduceSub, Int.reduceMul, Nat.reduceEqDiff, Int.cast_ofNat_Int, List.getD_cons_zero, List.getD_cons_succ, hr, h1]
theorem cl_law_swaps (S : Sto) : callD (evC tb W (k + 1)) i_law_swaps [gD g] S = some (.list ((swL g).map triD), S) :=
  callD_plain rfl (by
    rw [evC_run (fn := f_law_swaps) rfl rfl]
    obtain ⟨env', S', h1, w2, w3, w4, h2, h3⟩ := forLoop_ind (tg := .var 2) (g := fun (i : Nat) => PyData.int i) (body := bodyF tb (evC tb W k) W 0 lsOut)
      (fun i env S => ∃ w2 w3 w4, env = [some (gD g), some (cel 0), w2, w3, w4] ∧ S = [(0, .list ((((List.range g.length).take i).flatMap fun s => swM g s (List.range g.length)).map triD))]) (List.range g.length)
      (env := [some (gD g), some (cel 0), none, none, none]) (S := [(0, .list [])]) ⟨none, none, none, rfl, rfl⟩ (by
        rintro i s env S hs ⟨w2, w3, w4, rfl, rfl⟩
        have hsn : s < g.length := List.mem_range.mp (List.mem_of_getElem? hs)
        have hlen : (((List.range g.length).take i).flatMap fun s => swM g s (List.range g.length)).length ≤ 1728 := by
          have := flat_le (f := fun s => swM g s (List.range g.length)) (m := 144) (l := (List.range g.length).take i) fun s _ => swM_len g h12 s _ (by rw [List.length_range]; exact h12)
          have h2 : ((List.range g.length).take i).length ≤ 12 := by rw [List.length_take, List.length_range]; omega
          omega
        obtain ⟨x3, x4, hi⟩ := ls_out (W := W) G h12 k ((((List.range g.length).take i).flatMap fun s => swM g s (List.range g.length)).map triD) (by rw [List.length_map]; omega) hsn w3 w4
        rw [← List.map_append, ← flat_snoc (fun s => swM g s (List.range g.length)) hs] at hi
        exact ⟨_, _, _, rfl, .inl hi, ⟨_, _, _, rfl, rfl⟩⟩)
    subst h2 h3
    rw [List.take_length] at h1
    have hr := rngD_one (show g.length < 2 ^ 62 by omega)
    simp -implicitDefEqProofs only [bnd_some, bnd_none, mpd_some, mpd_none, cnd_true, cnd_false, e_var, vl_int, vl_bool, vl_none, vl_str, vl_list, vl_tuple, vl_edict, vl_cel, vl_scr, e_int, e_str, e_bl, e_non, e_edict, e_bin, e_neg, e_cmp, e_chain, e_and, e_or, e_not, e_ite, e_tup, e_lst, e_call, e_callk, e_bi, e_mt, e_idx, e_sl, e_slr, e_lc, e_thaw, e_lrng, l_nil, l_cons, o_nil, o_cons, t_nil, t_cons, i_rng, i_cons, s_asg, s_asgm, s_asgi, s_par, s_ex, s_ret, s_retm, s_retn, s_iff, s_forr, s_whl, s_pas, s_brk, s_cnt, b_nil, b_cons, th_nx, th_rt, th_bk, th_ct, List.getElem?_cons_zero, List.getElem?_cons_succ, List.map_cons, List.map_nil, List.cons_append, List.nil_append, List.replicate_succ, List.replicate_zero, if_true, if_false, Bool.false_eq_true, Bool.not_true, Bool.not_false, peek_int, peek_bool, peek_none, peek_str, peek_list, peek_tuple, peek_edict, peek_cel, settle_int, settle_bool, settle_none, settle_str, settle_list, settle_tuple, settle_edict, isTrueD_bool, biD, one, two, kindB, tyD, lenD, intOfD, iiD, sumD, listD, tupleD, binD, addD_int, subD, mulD_int, intD, cmpD, cmpI, isD, isNon, eqD_int, eqD_str, outD_rt, outD_rtt, outD_nx, bindT, List.set_cons_zero, List.set_cons_succ, wipeE, frE, celOf_int, celOf_bool, celOf_none, celOf_str, celOf_list, celOf_tuple, celOf_edict, celOf_cel, Option.isNone_none, Option.isNone_some, Bool.and_true, Bool.true_and, Bool.and_false, Bool.false_and, Bool.or_true, Bool.true_or, Bool.or_false, Bool.false_or, beginD_list, beginD_tuple, unlock_none, unlockO, idxD_list, idxD_tuple, setsE, decide_true, decide_false, List.take_nil, List.length_nil, List.length_cons, mtD, List.set_nil, List.getElem?_nil, Nat.zero_add, decide_eq_true_eq, sb_nil, sb_t, sb_f, sb_e, sa_nil, sa_cons, Nat.reduceSub, Nat.reduceLT, Nat.reduceAdd, Nat.reduceMul, Nat.reduceLeDiff, cnd_and, cnd_or, Option.bind_some, Option.map_some, Option.bind_none, Option.map_none, List.length_map, reduceCtorEq, beq_self_eq_true, eqD_nil, line, Nat.zero_le, ixD_0, ixD_1, ixD_2, ixD_last, Int.reduceEq, Int.reduceLT, Int.reduceLE, Int.reduceNeg, Int.reduceAdd, Int.reduceSub, Int.reduceMul, Nat.reduceEqDiff, Int.cast_ofNat_Int, List.getD_cons_zero, List.getD_cons_succ, ls_t, s_retm, s_asgm, hr, h1]
    rfl)
end
end K50
end
section
set_option Elab.async false
set_option linter.all false
set_option maxRecDepth 100000
set_option maxHeartbeats 4000000
namespace K50
open PySem TW
variable {W : Nat}
theorem sl_from (ds : List PyData) (j : Nat) (hj : j ≤ ds.length) : slD (.list ds) (some (.int j)) none = some (.list (ds.drop j)) := by
  show some (PyData.list (cutD ds (some (j : Int)) none)) = _
  unfold cutD
  rw [HT.sIx_nat, show HT.sIx ds.length ds.length none = ds.length from rfl, Nat.min_eq_left hj, List.take_of_length_le (by rw [List.length_drop]; omega)]
theorem sl_to (ds : List PyData) (j : Nat) (hj : j ≤ ds.length) : slD (.list ds) none (some (.int j)) = some (.list (ds.take j)) := by
  show some (PyData.list (cutD ds none (some (j : Int)))) = _
  unfold cutD
  rw [show HT.sIx ds.length 0 none = 0 from rfl, HT.sIx_nat, Nat.min_eq_left hj, List.drop_zero, Nat.sub_zero]
/-! ### swaps_in_square -/
def ps3 : T := (.cons (.iff (.cmp .eq (.idx (.var 6) (.var 7)) (.idx (.idx (.var 0) (.idx (.var 4) (.var 7))) (.var 5))) (.cons (.ex (.mt .append (.var 1) (.cons (.tup (.cons (.var 3) (.cons (.var 5) (.cons (.var 7) .nil)))) .nil))) .nil) .nil) .nil)
def ps2 : T := (.cons (.asg (.var 6) (.idx (.var 0) (.idx (.var 4) (.var 5)))) (.cons (.forr (.var 7) (.cons (.sl (.var 2) (.cons (.bin .add (.var 5) (.int 1)) .nil) .nil) .nil) ps3) .nil))
def ps1 : T := (.cons (.forr (.var 5) (.cons (.var 2) .nil) ps2) .nil)
theorem ps_t : t_swaps_in_square = (.cons (.par [(1, true), (2, false)] (.cons (.thaw (.lst .nil)) (.cons (.lrng (.cons (.bi .len (.cons (.var 0) .nil)) .nil)) .nil))) (.cons (.forr (.tup (.cons (.var 3) (.cons (.var 4) .nil))) (.enumr (.var 0)) ps1) (.cons (.retm 1) .nil))) := rfl
abbrev plD (n : Nat) : PyData := .list ((List.range n).map fun (i : Nat) => PyData.int i)
section
variable {g : List (List Int)} (G : Lat g) (h12 : g.length ≤ 12) (k : Nat)
include G h12
theorem ps_in (acc : List PyData) (hacc : acc.length ≤ 100000) {s a b : Nat} (hs : s < g.length) (ha : a < g.length) (hb : b < g.length) :
    bodyF tb (evC tb W k) W 0 ps3 [some (gD g), some (cel 0), some (plD g.length), some (.int s), some (iL (g.getD (s : Int).toNat [])), some (.int a), some (iL (g.getD (ent g s a).toNat [])), some (.int b)] [(0, .list acc)]
      = some (.nx [some (gD g), some (cel 0), some (plD g.length), some (.int s), some (iL (g.getD (s : Int).toNat [])), some (.int a), some (iL (g.getD (ent g s a).toNat [])), some (.int b)] [(0, .list (acc ++ (if passB g s a b then [(s, a, b)] else []).map triD))]) := by
  have is : inB g.length (s : Int) = true := inB_iff.mpr ⟨by omega, by omega⟩
  have ia : inB g.length (a : Int) = true := inB_iff.mpr ⟨by omega, by omega⟩
  have ib : inB g.length (b : Int) = true := inB_iff.mpr ⟨by omega, by omega⟩
  have sa := G.ent_in is ia
  have sb := G.ent_in is ib
  have ap := appT (acc := acc) (d := triD (s, a, b)) (by omega) fun _ => rfl
  unfold triD at ap
  simp only at ap
  cases h : passB g s a b with
  | true =>
    have h' : decide (ent g (ent g s a) b = ent g (ent g s b) a) = true := h
    simp only [if_true, List.map_cons, List.map_nil]
    unfold triD
    simp -implicitDefEqProofs only [bodyF, ps3, bnd_some, bnd_none, mpd_some, mpd_none, cnd_true, cnd_false, e_var, vl_int, vl_bool, vl_none, vl_str, vl_list, vl_tuple, vl_edict, vl_cel, vl_scr, e_int, e_str, e_bl, e_non, e_edict, e_bin, e_neg, e_cmp, e_chain, e_and, e_or, e_not, e_ite, e_tup, e_lst, e_call, e_callk, e_bi, e_mt, e_idx, e_sl, e_slr, e_lc, e_thaw, e_lrng, l_nil, l_cons, o_nil, o_cons, t_nil, t_cons, i_rng, i_cons, s_asg, s_asgm, s_asgi, s_par, s_ex, s_ret, s_retm, s_retn, s_iff, s_forr, s_whl, s_pas, s_brk, s_cnt, b_nil, b_cons, th_nx, th_rt, th_bk, th_ct, List.getElem?_cons_zero, List.getElem?_cons_succ, List.map_cons, List.map_nil, List.cons_append, List.nil_append, List.replicate_succ, List.replicate_zero, if_true, if_false, Bool.false_eq_true, Bool.not_true, Bool.not_false, peek_int, peek_bool, peek_none, peek_str, peek_list, peek_tuple, peek_edict, peek_cel, settle_int, settle_bool, settle_none, settle_str, settle_list, settle_tuple, settle_edict, isTrueD_bool, biD, one, two, kindB, tyD, lenD, intOfD, iiD, sumD, listD, tupleD, binD, addD_int, subD, mulD_int, intD, cmpD, cmpI, isD, isNon, eqD_int, eqD_str, outD_rt, outD_rtt, outD_nx, bindT, List.set_cons_zero, List.set_cons_succ, wipeE, frE, celOf_int, celOf_bool, celOf_none, celOf_str, celOf_list, celOf_tuple, celOf_edict, celOf_cel, Option.isNone_none, Option.isNone_some, Bool.and_true, Bool.true_and, Bool.and_false, Bool.false_and, Bool.or_true, Bool.true_or, Bool.or_false, Bool.false_or, beginD_list, beginD_tuple, unlock_none, unlockO, idxD_list, idxD_tuple, setsE, decide_true, decide_false, List.take_nil, List.length_nil, List.length_cons, mtD, List.set_nil, List.getElem?_nil, Nat.zero_add, decide_eq_true_eq, sb_nil, sb_t, sb_f, sb_e, sa_nil, sa_cons, Nat.reduceSub, Nat.reduceLT, Nat.reduceAdd, Nat.reduceMul, Nat.reduceLeDiff, cnd_and, cnd_or, Option.bind_some, Option.map_some, Option.bind_none, Option.map_none, List.length_map, reduceCtorEq, beq_self_eq_true, eqD_nil, line, Nat.zero_le, ixD_0, ixD_1, ixD_2, ixD_last, Int.reduceEq, Int.reduceLT, Int.reduceLE, Int.reduceNeg, Int.reduceAdd, Int.reduceSub, Int.reduceMul, Nat.reduceEqDiff, Int.cast_ofNat_Int, List.getD_cons_zero, List.getD_cons_succ, ixD_int is, ixD_int ia, ixD_int ib, ixD_int sa, ixD_int sb, G.get1 is, G.get1 sa, G.get1 sb, G.len1 is, G.len1 sa, G.len1 sb, G.get2 is ia, G.get2 is ib, G.get2 sa ib, G.get2 sb ia, h', ap]
  | false =>
    have h' : decide (ent g (ent g s a) b = ent g (ent g s b) a) = false := h
    simp only [Bool.false_eq_true, if_false, List.map_nil, List.append_nil]
    simp -implicitDefEqProofs only [bodyF, ps3, bnd_some, bnd_none, mpd_some, mpd_none, cnd_true, cnd_false, e_var, vl_int, vl_bool, vl_none, vl_str, vl_list, vl_tuple, vl_edict, vl_cel, vl_scr, e_int, e_str, e_bl, e_non, e_edict, e_bin, e_neg, e_cmp, e_chain, e_and, e_or, e_not, e_ite, e_tup, e_lst, e_call, e_callk, e_bi, e_mt, e_idx, e_sl, e_slr, e_lc, e_thaw, e_lrng, l_nil, l_cons, o_nil, o_cons, t_nil, t_cons, i_rng, i_cons, s_asg, s_asgm, s_asgi, s_par, s_ex, s_ret, s_retm, s_retn, s_iff, s_forr, s_whl, s_pas, s_brk, s_cnt, b_nil, b_cons, th_nx, th_rt, th_bk, th_ct, List.getElem?_cons_zero, List.getElem?_cons_succ, List.map_cons, List.map_nil, List.cons_append, List.nil_append, List.replicate_succ, List.replicate_zero, if_true, if_false, Bool.false_eq_true, Bool.not_true, Bool.not_false, peek_int, peek_bool, peek_none, peek_str, peek_list, peek_tuple, peek_edict, peek_cel, settle_int, settle_bool, settle_none, settle_str, settle_list, settle_tuple, settle_edict, isTrueD_bool, biD, one, two, kindB, tyD, lenD, intOfD, iiD, sumD, listD, tupleD, binD, addD_int, subD, mulD_int, intD, cmpD, cmpI, isD, isNon, eqD_int, eqD_str, outD_rt, outD_rtt, outD_nx, bindT, List.set_cons_zero, List.set_cons_succ, wipeE, frE, celOf_int, celOf_bool, celOf_none, celOf_str, celOf_list, celOf_tuple, celOf_edict, celOf_cel, Option.isNone_none, Option.isNone_some, Bool.and_true, Bool.true_and, Bool.and_false, Bool.false_and, Bool.or_true, Bool.true_or, Bool.or_false, Bool.false_or, beginD_list, beginD_tuple, unlock_none, unlockO, idxD_list, idxD_tuple, setsE, decide_true, decide_false, List.take_nil, List.length_nil, List.length_cons, mtD, List.set_nil, List.getElem?_nil, Nat.zero_add, decide_eq_true_eq, sb_nil, sb_t, sb_f, sb_e, sa_nil, sa_cons, Nat.reduceSub, Nat.reduceLT, Nat.reduceAdd, Nat.reduceMul, Nat.reduceLeDiff, cnd_and, cnd_or, Option.bind_some, Option.map_some, Option.bind_none, Option.map_none, List.length_map, reduceCtorEq, beq_self_eq_true, eqD_nil, line, Nat.zero_le, ixD_0, ixD_1, ixD_2, ixD_last, Int.reduceEq, Int.reduceLT, Int.reduceLE, Int.reduceNeg, Int.reduceAdd, Int.reduceSub, Int.reduceMul, Nat.reduceEqDiff, Int.cast_ofNat_Int, List.getD_cons_zero, List.getD_cons_succ, ixD_int is, ixD_int ia, ixD_int ib, ixD_int sa, ixD_int sb, G.get1 is, G.get1 sa, G.get1 sb, G.len1 is, G.len1 sa, G.len1 sb, G.get2 is ia, G.get2 is ib, G.get2 sa ib, G.get2 sb ia, h']
theorem ps_mid (acc : List PyData) (hacc : acc.length ≤ 50000) {s a : Nat} (hs : s < g.length) (ha : a < g.length) (v6 v7 : Option PyData) :
    ∃ w6 w7, bodyF tb (evC tb W k) W 0 ps2 [some (gD g), some (cel 0), some (plD g.length), some (.int s), some (iL (g.getD (s : Int).toNat [])), some (.int a), v6, v7] [(0, .list acc)]
      = some (.nx [some (gD g), some (cel 0), some (plD g.length), some (.int s), some (iL (g.getD (s : Int).toNat [])), some (.int a), w6, w7] [(0, .list (acc ++ (swI g s a ((List.range g.length).drop (a + 1))).map triD))]) := by
  have is : inB g.length (s : Int) = true := inB_iff.mpr ⟨by omega, by omega⟩
  have ia : inB g.length (a : Int) = true := inB_iff.mpr ⟨by omega, by omega⟩
  have sa := G.ent_in is ia
  obtain ⟨env', S', h1, w7, h2, h3⟩ := forLoop_ind (tg := .var 7) (g := fun (i : Nat) => PyData.int i) (body := bodyF tb (evC tb W k) W 0 ps3)
    (fun i env S => ∃ w7, env = [some (gD g), some (cel 0), some (plD g.length), some (.int s), some (iL (g.getD (s : Int).toNat [])), some (.int a), some (iL (g.getD (ent g s a).toNat [])), w7] ∧ S = [(0, .list (acc ++ (swI g s a (((List.range g.length).drop (a + 1)).take i)).map triD))]) ((List.range g.length).drop (a + 1))
    (env := [some (gD g), some (cel 0), some (plD g.length), some (.int s), some (iL (g.getD (s : Int).toNat [])), some (.int a), some (iL (g.getD (ent g s a).toNat [])), v7]) (S := [(0, .list acc)]) ⟨v7, rfl, by simp [swI]⟩ (by
      rintro i b env S hb ⟨w7, rfl, rfl⟩
      have hbn : b < g.length := List.mem_range.mp (List.mem_of_mem_drop (List.mem_of_getElem? hb))
      have hlen : (swI g s a (((List.range g.length).drop (a + 1)).take i)).length ≤ 12 := Nat.le_trans (swI_len ..) (by rw [List.length_take, List.length_drop, List.length_range]; omega)
      have hi := ps_in (W := W) G h12 k (acc ++ (swI g s a (((List.range g.length).drop (a + 1)).take i)).map triD) (by rw [List.length_append, List.length_map]; omega) hs ha hbn
      rw [List.append_assoc, ← List.map_append, ← swI_snoc g s a hb] at hi
      exact ⟨_, _, _, rfl, .inl hi, ⟨_, rfl, rfl⟩⟩)
  subst h2 h3
  rw [List.take_length] at h1
  refine ⟨some (iL (g.getD (ent g s a).toNat [])), w7, ?_⟩
  have hsl : slD (plD g.length) (some (.int ((a : Int) + 1))) none = some (.list (((List.range g.length).drop (a + 1)).map fun (i : Nat) => PyData.int i)) := by
    have := sl_from ((List.range g.length).map fun (i : Nat) => PyData.int i) (a + 1) (by rw [List.length_map, List.length_range]; omega)
    rw [List.map_drop]
    exact this
  simp -implicitDefEqProofs only [bodyF, ps2, bnd_some, bnd_none, mpd_some, mpd_none, cnd_true, cnd_false, e_var, vl_int, vl_bool, vl_none, vl_str, vl_list, vl_tuple, vl_edict, vl_cel, vl_scr, e_int, e_str, e_bl, e_non, e_edict, e_bin, e_neg, e_cmp, e_chain, e_and, e_or, e_not, e_ite, e_tup, e_lst, e_call, e_callk, e_bi, e_mt, e_idx, e_sl, e_slr, e_lc, e_thaw, e_lrng, l_nil, l_cons, o_nil, o_cons, t_nil, t_cons, i_rng, i_cons, s_asg, s_asgm, s_asgi, s_par, s_ex, s_ret, s_retm, s_retn, s_iff, s_forr, s_whl, s_pas, s_brk, s_cnt, b_nil, b_cons, th_nx, th_rt, th_bk, th_ct, List.getElem?_cons_zero, List.getElem?_cons_succ, List.map_cons, List.map_nil, List.cons_append, List.nil_append, List.replicate_succ, List.replicate_zero, if_true, if_false, Bool.false_eq_true, Bool.not_true, Bool.not_false, peek_int, peek_bool, peek_none, peek_str, peek_list, peek_tuple, peek_edict, peek_cel, settle_int, settle_bool, settle_none, settle_str, settle_list, settle_tuple, settle_edict, isTrueD_bool, biD, one, two, kindB, tyD, lenD, intOfD, iiD, sumD, listD, tupleD, binD, addD_int, subD, mulD_int, intD, cmpD, cmpI, isD, isNon, eqD_int, eqD_str, outD_rt, outD_rtt, outD_nx, bindT, List.set_cons_zero, List.set_cons_succ, wipeE, frE, celOf_int, celOf_bool, celOf_none, celOf_str, celOf_list, celOf_tuple, celOf_edict, celOf_cel, Option.isNone_none, Option.isNone_some, Bool.and_true, Bool.true_and, Bool.and_false, Bool.false_and, Bool.or_true, Bool.true_or, Bool.or_false, Bool.false_or, beginD_list, beginD_tuple, unlock_none, unlockO, idxD_list, idxD_tuple, setsE, decide_true, decide_false, List.take_nil, List.length_nil, List.length_cons, mtD, List.set_nil, List.getElem?_nil, Nat.zero_add, decide_eq_true_eq, sb_nil, sb_t, sb_f, sb_e, sa_nil, sa_cons, Nat.reduceSub, Nat.reduceLT, Nat.reduceAdd, Nat.reduceMul, Nat.reduceLeDiff, cnd_and, cnd_or, Option.bind_some, Option.map_some, Option.bind_none, Option.map_none, List.length_map, reduceCtorEq, beq_self_eq_true, eqD_nil, line, Nat.zero_le, ixD_0, ixD_1, ixD_2, ixD_last, Int.reduceEq, Int.reduceLT, Int.reduceLE, Int.reduceNeg, Int.reduceAdd, Int.reduceSub, Int.reduceMul, Nat.reduceEqDiff, Int.cast_ofNat_Int, List.getD_cons_zero, List.getD_cons_succ, ixD_int is, ixD_int ia, ixD_int sa, G.len1 is, G.get2 is ia, G.get1 sa, hsl, h1]
theorem ps_out (acc : List PyData) (hacc : acc.length ≤ 10000) {s : Nat} (hs : s < g.length) (v5 v6 v7 : Option PyData) :
    ∃ w5 w6 w7, bodyF tb (evC tb W k) W 0 ps1 [some (gD g), some (cel 0), some (plD g.length), some (.int s), some (iL (g.getD (s : Int).toNat [])), v5, v6, v7] [(0, .list acc)]
      = some (.nx [some (gD g), some (cel 0), some (plD g.length), some (.int s), some (iL (g.getD (s : Int).toNat [])), w5, w6, w7] [(0, .list (acc ++ (swM g s (List.range g.length)).map triD))]) := by
  obtain ⟨env', S', h1, w5, w6, w7, h2, h3⟩ := forLoop_ind (tg := .var 5) (g := fun (i : Nat) => PyData.int i) (body := bodyF tb (evC tb W k) W 0 ps2)
    (fun i env S => ∃ w5 w6 w7, env = [some (gD g), some (cel 0), some (plD g.length), some (.int s), some (iL (g.getD (s : Int).toNat [])), w5, w6, w7] ∧ S = [(0, .list (acc ++ (swM g s ((List.range g.length).take i)).map triD))]) (List.range g.length)
    (env := [some (gD g), some (cel 0), some (plD g.length), some (.int s), some (iL (g.getD (s : Int).toNat [])), v5, v6, v7]) (S := [(0, .list acc)]) ⟨v5, v6, v7, rfl, by simp [swM]⟩ (by
      rintro i a env S ha ⟨w5, w6, w7, rfl, rfl⟩
      have han : a < g.length := List.mem_range.mp (List.mem_of_getElem? ha)
      have hlen := swM_len g h12 s ((List.range g.length).take i) (by rw [List.length_take, List.length_range]; omega)
      obtain ⟨x6, x7, hi⟩ := ps_mid (W := W) G h12 k (acc ++ (swM g s ((List.range g.length).take i)).map triD) (by rw [List.length_append, List.length_map]; omega) hs han w6 w7
      have es : swM g s ((List.range g.length).take (i + 1)) = swM g s ((List.range g.length).take i) ++ swI g s a ((List.range g.length).drop (a + 1)) := flat_snoc _ ha
      rw [List.append_assoc, ← List.map_append, ← es] at hi
      exact ⟨_, _, _, rfl, .inl hi, ⟨_, _, _, rfl, rfl⟩⟩)
  subst h2 h3
  rw [List.take_length] at h1
  refine ⟨w5, w6, w7, ?_⟩
  simp -implicitDefEqProofs only [bodyF, ps1, bnd_some, bnd_none, mpd_some, mpd_none, cnd_true, cnd_false, e_var, vl_int, vl_bool, vl_none, vl_str, vl_list, vl_tuple, vl_edict, vl_cel, vl_scr, e_int, e_str, e_bl, e_non, e_edict, e_bin, e_neg, e_cmp, e_chain, e_and, e_or, e_not, e_ite, e_tup, e_lst, e_call, e_callk, e_bi, e_mt, e_idx, e_sl, e_slr, e_lc, e_thaw, e_lrng, l_nil, l_cons, o_nil, o_cons, t_nil, t_cons, i_rng, i_cons, s_asg, s_asgm, s_asgi, s_par, s_ex, s_ret, s_retm, s_retn, s_iff, s_forr, s_whl, s_pas, s_brk, s_cnt, b_nil, b_cons, th_nx, th_rt, th_bk, th_ct, List.getElem?_cons_zero, List.getElem?_cons_succ, List.map_cons, List.map_nil, List.cons_append, List.nil_append, List.replicate_succ, List.replicate_zero, if_true, if_false, Bool.false_eq_true, Bool.not_true, Bool.not_false, peek_int, peek_bool, peek_none, peek_str, peek_list, peek_tuple, peek_edict, peek_cel, settle_int, settle_bool, settle_none, settle_str, settle_list, settle_tuple, settle_edict, isTrueD_bool, biD, one, two, kindB, tyD, lenD, intOfD, iiD, sumD, listD, tupleD, binD, addD_int, subD, mulD_int, intD, cmpD, cmpI, isD, isNon, eqD_int, eqD_str, outD_rt, outD_rtt, outD_nx, bindT, List.set_cons_zero, List.set_cons_succ, wipeE, frE, celOf_int, celOf_bool, celOf_none, celOf_str, celOf_list, celOf_tuple, celOf_edict, celOf_cel, Option.isNone_none, Option.isNone_some, Bool.and_true, Bool.true_and, Bool.and_false, Bool.false_and, Bool.or_true, Bool.true_or, Bool.or_false, Bool.false_or, beginD_list, beginD_tuple, unlock_none, unlockO, idxD_list, idxD_tuple, setsE, decide_true, decide_false, List.take_nil, List.length_nil, List.length_cons, mtD, List.set_nil, List.getElem?_nil, Nat.zero_add, decide_eq_true_eq, sb_nil, sb_t, sb_f, sb_e, sa_nil, sa_cons, Nat.reduceSub, Nat.reduceLT, Nat.reduceAdd, Nat.reduceMul, Nat.reduceLeDiff, cnd_and, cnd_or, Option.bind_some, Option.map_some, Option.bind_none, Option.map_none, List.length_map, reduceCtorEq, beq_self_eq_true, eqD_nil, line, Nat.zero_le, ixD_0, ixD_1, ixD_2, ixD_last, Int.reduceEq, Int.reduceLT, Int.reduceLE, Int.reduceNeg, Int.reduceAdd, Int.reduceSub, Int.reduceMul, Nat.reduceEqDiff, Int.cast_ofNat_Int, List.getD_cons_zero, List.getD_cons_succ, h1]
theorem cl_swaps (S : Sto) : callD (evC tb W (k + 1)) i_swaps_in_square [gD g] S = some (.list ((swL g).map triD), S) :=
  callD_plain rfl (by
    rw [evC_run (fn := f_swaps_in_square) rfl rfl]
    obtain ⟨env', S', h1, w3, w4, w5, w6, w7, h2, h3⟩ := forLoop_ind (tg := .tup (.cons (.var 3) (.cons (.var 4) .nil))) (g := fun (i : Nat) => PyData.tuple [.int i, iL (g.getD i [])]) (body := bodyF tb (evC tb W k) W 0 ps1)
      (fun i env S => ∃ w3 w4 w5 w6 w7, env = [some (gD g), some (cel 0), some (plD g.length), w3, w4, w5, w6, w7] ∧ S = [(0, .list ((((List.range g.length).take i).flatMap fun s => swM g s (List.range g.length)).map triD))]) (List.range g.length)
      (env := [some (gD g), some (cel 0), some (plD g.length), none, none, none, none, none]) (S := [(0, .list [])]) ⟨none, none, none, none, none, rfl, rfl⟩ (by
        rintro i s env S hs ⟨w3, w4, w5, w6, w7, rfl, rfl⟩
        have hsn : s < g.length := List.mem_range.mp (List.mem_of_getElem? hs)
        have hlen : (((List.range g.length).take i).flatMap fun s => swM g s (List.range g.length)).length ≤ 1728 := by
          have := flat_le (f := fun s => swM g s (List.range g.length)) (m := 144) (l := (List.range g.length).take i) fun s _ => swM_len g h12 s _ (by rw [List.length_range]; exact h12)
          have h2 : ((List.range g.length).take i).length ≤ 12 := by rw [List.length_take, List.length_range]; omega
          omega
        obtain ⟨x5, x6, x7, hi⟩ := ps_out (W := W) G h12 k ((((List.range g.length).take i).flatMap fun s => swM g s (List.range g.length)).map triD) (by rw [List.length_map]; omega) hsn w5 w6 w7
        rw [← List.map_append, ← flat_snoc (fun s => swM g s (List.range g.length)) hs] at hi
        exact ⟨_, _, _, rfl, .inl hi, ⟨_, _, _, _, _, rfl, rfl⟩⟩)
    subst h2 h3
    rw [List.take_length] at h1
    have hr := rngD_one (show g.length < 2 ^ 62 by omega)
    have hl : (List.range g.length).length ≤ 16777216 := by rw [List.length_range]; omega
    simp -implicitDefEqProofs only [bnd_some, bnd_none, mpd_some, mpd_none, cnd_true, cnd_false, e_var, vl_int, vl_bool, vl_none, vl_str, vl_list, vl_tuple, vl_edict, vl_cel, vl_scr, e_int, e_str, e_bl, e_non, e_edict, e_bin, e_neg, e_cmp, e_chain, e_and, e_or, e_not, e_ite, e_tup, e_lst, e_call, e_callk, e_bi, e_mt, e_idx, e_sl, e_slr, e_lc, e_thaw, e_lrng, l_nil, l_cons, o_nil, o_cons, t_nil, t_cons, i_rng, i_cons, s_asg, s_asgm, s_asgi, s_par, s_ex, s_ret, s_retm, s_retn, s_iff, s_forr, s_whl, s_pas, s_brk, s_cnt, b_nil, b_cons, th_nx, th_rt, th_bk, th_ct, List.getElem?_cons_zero, List.getElem?_cons_succ, List.map_cons, List.map_nil, List.cons_append, List.nil_append, List.replicate_succ, List.replicate_zero, if_true, if_false, Bool.false_eq_true, Bool.not_true, Bool.not_false, peek_int, peek_bool, peek_none, peek_str, peek_list, peek_tuple, peek_edict, peek_cel, settle_int, settle_bool, settle_none, settle_str, settle_list, settle_tuple, settle_edict, isTrueD_bool, biD, one, two, kindB, tyD, lenD, intOfD, iiD, sumD, listD, tupleD, binD, addD_int, subD, mulD_int, intD, cmpD, cmpI, isD, isNon, eqD_int, eqD_str, outD_rt, outD_rtt, outD_nx, bindT, List.set_cons_zero, List.set_cons_succ, wipeE, frE, celOf_int, celOf_bool, celOf_none, celOf_str, celOf_list, celOf_tuple, celOf_edict, celOf_cel, Option.isNone_none, Option.isNone_some, Bool.and_true, Bool.true_and, Bool.and_false, Bool.false_and, Bool.or_true, Bool.true_or, Bool.or_false, Bool.false_or, beginD_list, beginD_tuple, unlock_none, unlockO, idxD_list, idxD_tuple, setsE, decide_true, decide_false, List.take_nil, List.length_nil, List.length_cons, mtD, List.set_nil, List.getElem?_nil, Nat.zero_add, decide_eq_true_eq, sb_nil, sb_t, sb_f, sb_e, sa_nil, sa_cons, Nat.reduceSub, Nat.reduceLT, Nat.reduceAdd, Nat.reduceMul, Nat.reduceLeDiff, cnd_and, cnd_or, Option.bind_some, Option.map_some, Option.bind_none, Option.map_none, List.length_map, reduceCtorEq, beq_self_eq_true, eqD_nil, line, Nat.zero_le, ixD_0, ixD_1, ixD_2, ixD_last, Int.reduceEq, Int.reduceLT, Int.reduceLE, Int.reduceNeg, Int.reduceAdd, Int.reduceSub, Int.reduceMul, Nat.reduceEqDiff, Int.cast_ofNat_Int, List.getD_cons_zero, List.getD_cons_succ, ps_t, s_retm, e_thaw, i_enumr, enD_list, numbered_rows, hr, hl, h1]
    rfl)
end
/-! ### ways -/
def ways (n l : Nat) (b : Bool) : Int := if l = 0 then (if b then 1 else 0) else (n : Int) ^ (l - 1)
theorem cl_ways (k n l : Nat) (hn : n ≤ 1000) (hl : l ≤ 1000) (b : Bool) (S : Sto) : callD (evC tb W (k + 2)) i_ways_to [.int n, .int l, .bool b] S = some (.int (ways n l b), S) :=
  callD_plain rfl (by
    rw [evC_run (fn := f_ways_to) rfl rfl]
    cases l with
    | zero =>
      have h : decide ((0 : Int) < ((0 : Nat) : Int)) = false := rfl
      simp -implicitDefEqProofs only [bnd_some, bnd_none, mpd_some, mpd_none, cnd_true, cnd_false, e_var, vl_int, vl_bool, vl_none, vl_str, vl_list, vl_tuple, vl_edict, vl_cel, vl_scr, e_int, e_str, e_bl, e_non, e_edict, e_bin, e_neg, e_cmp, e_chain, e_and, e_or, e_not, e_ite, e_tup, e_lst, e_call, e_callk, e_bi, e_mt, e_idx, e_sl, e_slr, e_lc, e_thaw, e_lrng, l_nil, l_cons, o_nil, o_cons, t_nil, t_cons, i_rng, i_cons, s_asg, s_asgm, s_asgi, s_par, s_ex, s_ret, s_retm, s_retn, s_iff, s_forr, s_whl, s_pas, s_brk, s_cnt, b_nil, b_cons, th_nx, th_rt, th_bk, th_ct, List.getElem?_cons_zero, List.getElem?_cons_succ, List.map_cons, List.map_nil, List.cons_append, List.nil_append, List.replicate_succ, List.replicate_zero, if_true, if_false, Bool.false_eq_true, Bool.not_true, Bool.not_false, peek_int, peek_bool, peek_none, peek_str, peek_list, peek_tuple, peek_edict, peek_cel, settle_int, settle_bool, settle_none, settle_str, settle_list, settle_tuple, settle_edict, isTrueD_bool, biD, one, two, kindB, tyD, lenD, intOfD, iiD, sumD, listD, tupleD, binD, addD_int, subD, mulD_int, intD, cmpD, cmpI, isD, isNon, eqD_int, eqD_str, outD_rt, outD_rtt, outD_nx, bindT, List.set_cons_zero, List.set_cons_succ, wipeE, frE, celOf_int, celOf_bool, celOf_none, celOf_str, celOf_list, celOf_tuple, celOf_edict, celOf_cel, Option.isNone_none, Option.isNone_some, Bool.and_true, Bool.true_and, Bool.and_false, Bool.false_and, Bool.or_true, Bool.true_or, Bool.or_false, Bool.false_or, beginD_list, beginD_tuple, unlock_none, unlockO, idxD_list, idxD_tuple, setsE, decide_true, decide_false, List.take_nil, List.length_nil, List.length_cons, mtD, List.set_nil, List.getElem?_nil, Nat.zero_add, decide_eq_true_eq, sb_nil, sb_t, sb_f, sb_e, sa_nil, sa_cons, Nat.reduceSub, Nat.reduceLT, Nat.reduceAdd, Nat.reduceMul, Nat.reduceLeDiff, cnd_and, cnd_or, Option.bind_some, Option.map_some, Option.bind_none, Option.map_none, List.length_map, reduceCtorEq, beq_self_eq_true, eqD_nil, line, Nat.zero_le, ixD_0, ixD_1, ixD_2, ixD_last, Int.reduceEq, Int.reduceLT, Int.reduceLE, Int.reduceNeg, Int.reduceAdd, Int.reduceSub, Int.reduceMul, Nat.reduceEqDiff, Int.cast_ofNat_Int, List.getD_cons_zero, List.getD_cons_succ, t_ways_to, h]
      rfl
    | succ l =>
      have h : decide ((0 : Int) < ((l + 1 : Nat) : Int)) = true := decide_eq_true (by omega)
      have e1 : ((l + 1 : Nat) : Int) - 1 = (l : Int) := by omega
      have c := cl_times (W := W) k n l hn (by omega)
      simp -implicitDefEqProofs only [bnd_some, bnd_none, mpd_some, mpd_none, cnd_true, cnd_false, e_var, vl_int, vl_bool, vl_none, vl_str, vl_list, vl_tuple, vl_edict, vl_cel, vl_scr, e_int, e_str, e_bl, e_non, e_edict, e_bin, e_neg, e_cmp, e_chain, e_and, e_or, e_not, e_ite, e_tup, e_lst, e_call, e_callk, e_bi, e_mt, e_idx, e_sl, e_slr, e_lc, e_thaw, e_lrng, l_nil, l_cons, o_nil, o_cons, t_nil, t_cons, i_rng, i_cons, s_asg, s_asgm, s_asgi, s_par, s_ex, s_ret, s_retm, s_retn, s_iff, s_forr, s_whl, s_pas, s_brk, s_cnt, b_nil, b_cons, th_nx, th_rt, th_bk, th_ct, List.getElem?_cons_zero, List.getElem?_cons_succ, List.map_cons, List.map_nil, List.cons_append, List.nil_append, List.replicate_succ, List.replicate_zero, if_true, if_false, Bool.false_eq_true, Bool.not_true, Bool.not_false, peek_int, peek_bool, peek_none, peek_str, peek_list, peek_tuple, peek_edict, peek_cel, settle_int, settle_bool, settle_none, settle_str, settle_list, settle_tuple, settle_edict, isTrueD_bool, biD, one, two, kindB, tyD, lenD, intOfD, iiD, sumD, listD, tupleD, binD, addD_int, subD, mulD_int, intD, cmpD, cmpI, isD, isNon, eqD_int, eqD_str, outD_rt, outD_rtt, outD_nx, bindT, List.set_cons_zero, List.set_cons_succ, wipeE, frE, celOf_int, celOf_bool, celOf_none, celOf_str, celOf_list, celOf_tuple, celOf_edict, celOf_cel, Option.isNone_none, Option.isNone_some, Bool.and_true, Bool.true_and, Bool.and_false, Bool.false_and, Bool.or_true, Bool.true_or, Bool.or_false, Bool.false_or, beginD_list, beginD_tuple, unlock_none, unlockO, idxD_list, idxD_tuple, setsE, decide_true, decide_false, List.take_nil, List.length_nil, List.length_cons, mtD, List.set_nil, List.getElem?_nil, Nat.zero_add, decide_eq_true_eq, sb_nil, sb_t, sb_f, sb_e, sa_nil, sa_cons, Nat.reduceSub, Nat.reduceLT, Nat.reduceAdd, Nat.reduceMul, Nat.reduceLeDiff, cnd_and, cnd_or, Option.bind_some, Option.map_some, Option.bind_none, Option.map_none, List.length_map, reduceCtorEq, beq_self_eq_true, eqD_nil, line, Nat.zero_le, ixD_0, ixD_1, ixD_2, ixD_last, Int.reduceEq, Int.reduceLT, Int.reduceLE, Int.reduceNeg, Int.reduceAdd, Int.reduceSub, Int.reduceMul, Nat.reduceEqDiff, Int.cast_ofNat_Int, List.getD_cons_zero, List.getD_cons_succ, t_ways_to, h, e1, c]
      rfl)
end K50
end
section
set_option Elab.async false
set_option linter.all false
set_option maxRecDepth 100000
set_option maxHeartbeats 4000000
namespace K50
open PySem TW
variable {W : Nat}
/-! ### sums -/
def sumI : List Int → Int
  | [] => 0
  | x :: l => x + sumI l
theorem sumI_app : ∀ a b : List Int, sumI (a ++ b) = sumI a + sumI b
  | [], b => by simp [sumI]
  | x :: a, b => by
    show x + sumI (a ++ b) = x + sumI a + sumI b
    rw [sumI_app a b]; omega
theorem sumI_snoc {α : Type} (f : α → Int) {l : List α} {i : Nat} {a : α} (h : l[i]? = some a) : sumI ((l.take (i + 1)).map f) = sumI ((l.take i).map f) + f a := by
  rw [List.take_add_one, h, List.map_append, sumI_app]
  show _ + (f a + 0) = _
  omega
theorem small_log {i : Int} {k : Nat} (h0 : 0 ≤ i) (h : i < 2 ^ k) (hk : 0 < k) : i.natAbs.log2 < k := by
  by_cases hz : i.natAbs = 0
  · rw [hz]
    exact Nat.lt_of_le_of_lt (show Nat.log2 0 ≤ 0 by decide) hk
  · refine (Nat.log2_lt hz).mpr ?_
    have e : ((2 ^ k : Nat) : Int) = (2 : Int) ^ k := by exact Int.natCast_pow 2 k
    omega
theorem ways_nn (n l : Nat) (b : Bool) : 0 ≤ ways n l b := by
  unfold ways
  split
  · split <;> omega
  · exact Int.pow_nonneg (by omega)
theorem ways_lt (n l : Nat) (hn : n ≤ 12) (hl : l ≤ 100) (b : Bool) : ways n l b < 2 ^ 400 := by
  unfold ways
  split
  · have : (1 : Int) < 2 ^ 400 := by decide +kernel
    split <;> omega
  · have h1 : n ^ (l - 1) ≤ 12 ^ (l - 1) := Nat.pow_le_pow_left hn _
    have h2 : 12 ^ (l - 1) ≤ 12 ^ 100 := Nat.pow_le_pow_right (by omega) (by omega)
    have h3 : (12 : Nat) ^ 100 < 2 ^ 400 := by decide +kernel
    have h4 : n ^ (l - 1) < 2 ^ 400 := Nat.lt_of_le_of_lt (Nat.le_trans h1 h2) h3
    have e1 : ((n ^ (l - 1) : Nat) : Int) = (n : Int) ^ (l - 1) := Int.natCast_pow n (l - 1)
    have e2 : ((2 ^ 400 : Nat) : Int) = (2 : Int) ^ 400 := Int.natCast_pow 2 400
    rw [← e1, ← e2]
    exact Int.ofNat_lt.mpr h4
theorem mulOk_log {i j : Int} (hi0 : 0 ≤ i) (hi : i < 2 ^ 401) (hj0 : 0 ≤ j) (hj : j < 2 ^ 401) : mulOk i j = true := by
  unfold mulOk
  have h1 := small_log hi0 hi (by decide)
  have h2 := small_log hj0 hj (by decide)
  rw [decide_eq_true (show i.natAbs.log2 + j.natAbs.log2 < 1000000 by omega), Bool.or_true]
theorem mulOk_ways (n l m : Nat) (hn : n ≤ 12) (hl : l ≤ 100) (hm : m ≤ 100) (b c : Bool) : mulOk (2 * ways n l b) (ways n m c) = true := by
  have h1 := ways_lt n l hn hl b
  have h2 := ways_lt n m hn hm c
  have e : (2 : Int) ^ 401 = 2 * 2 ^ 400 := by decide +kernel
  generalize (2 : Int) ^ 400 = X at h1 h2 e
  have n1 := ways_nn n l b
  have n2 := ways_nn n m c
  exact mulOk_log (by omega) (by rw [e]; omega) n2 (by rw [e]; omega)
/-! ### how_many_slip -/
def last3 (g : List (List Int)) (t : Nat × Nat × Nat) : Int := ent g (ent g t.1 t.2.1) t.2.2
def term (g : List (List Int)) (s e : Int) (l p : Nat) (t : Nat × Nat × Nat) : Int := 2 * ways g.length p (decide ((t.1 : Int) = s)) * ways g.length (l - p - 2) (decide (last3 g t = e))
theorem sw_in {g : List (List Int)} {t : Nat × Nat × Nat} (h : t ∈ swL g) : t.1 < g.length ∧ t.2.1 < g.length ∧ t.2.2 < g.length := by
  obtain ⟨s, hs, h⟩ := List.mem_flatMap.mp h
  obtain ⟨a, ha, h⟩ := List.mem_flatMap.mp h
  obtain ⟨b, hb, rfl⟩ := List.mem_map.mp h
  exact ⟨List.mem_range.mp hs, List.mem_range.mp ha, List.mem_range.mp (List.mem_of_mem_drop (List.mem_filter.mp hb).1)⟩
def hm1 : T := (.cons (.asg (.var 11) (.idx (.idx (.var 3) (.idx (.idx (.var 3) (.var 8)) (.var 9))) (.var 10))) (.cons (.asg (.var 12) (.call i_ways_to [] (.cons (.var 6) (.cons (.var 2) (.cons (.cmp .eq (.var 8) (.var 4)) .nil))))) (.cons (.asg (.var 7) (.bin .add (.var 7) (.bin .mul (.bin .mul (.int 2) (.var 12)) (.call i_ways_to [] (.cons (.var 6) (.cons (.bin .sub (.bin .sub (.var 1) (.var 2)) (.int 2)) (.cons (.cmp .eq (.var 11) (.var 5)) .nil))))))) .nil)))
theorem hm_t : t_how_many_slip = (.cons (.ex (.call i_check_chain [] (.cons (.var 0) .nil))) (.cons (.ex (.call i_check_number [] (.cons (.var 1) (.cons (.int 2) (.cons .non .nil))))) (.cons (.ex (.call i_check_number [] (.cons (.var 2) (.cons (.int 0) (.cons (.bin .sub (.var 1) (.int 2)) .nil))))) (.cons (.asg (.tup (.cons (.var 3) (.cons (.var 4) (.cons (.var 5) .nil)))) (.var 0)) (.cons (.par [(6, false), (7, false)] (.cons (.bi .len (.cons (.var 3) .nil)) (.cons (.int 0) .nil))) (.cons (.forr (.tup (.cons (.var 8) (.cons (.var 9) (.cons (.var 10) .nil)))) (.cons (.call i_swaps_in_square [] (.cons (.var 3) .nil)) .nil) hm1) (.cons (.ret (.var 7)) .nil))))))) := rfl
section
variable {g : List (List Int)} {s e : Int} (G : Good g s e) (h12 : g.length ≤ 12) (k : Nat) (l p : Nat) (hp : p + 2 ≤ l) (hl : l ≤ 100)
include G h12 hp hl
theorem hm_in (t : Nat × Nat × Nat) (ht : t ∈ swL g) (f : Int) (S : Sto) (v11 v12 : Option PyData) :
    ∃ w11 w12, bodyF tb (evC tb W (k + 2)) W 0 hm1 [some (chD g s e), some (.int l), some (.int p), some (gD g), some (.int s), some (.int e), some (.int g.length), some (.int f), some (.int t.1), some (.int t.2.1), some (.int t.2.2), v11, v12] S
      = some (.nx [some (chD g s e), some (.int l), some (.int p), some (gD g), some (.int s), some (.int e), some (.int g.length), some (.int (f + term g s e l p t)), some (.int t.1), some (.int t.2.1), some (.int t.2.2), w11, w12] S) := by
  have L := G.toLat
  obtain ⟨h1, h2, h3⟩ := sw_in ht
  have i1 : inB g.length (t.1 : Int) = true := inB_iff.mpr ⟨by omega, by omega⟩
  have i2 : inB g.length (t.2.1 : Int) = true := inB_iff.mpr ⟨by omega, by omega⟩
  have i3 : inB g.length (t.2.2 : Int) = true := inB_iff.mpr ⟨by omega, by omega⟩
  have i4 := L.ent_in i1 i2
  have c1 := cl_ways (W := W) k g.length p (by omega) (by omega) (decide ((t.1 : Int) = s)) S
  have c2 := cl_ways (W := W) k g.length (l - p - 2) (by omega) (by omega) (decide (last3 g t = e)) S
  have el : (l : Int) - p - 2 = ((l - p - 2 : Nat) : Int) := by omega
  rw [← el] at c2
  have m1 : mulOk 2 (ways g.length p (decide ((t.1 : Int) = s))) = true := mulOk_l rfl
  have m2 := mulOk_ways g.length p (l - p - 2) h12 (by omega) (by omega) (decide ((t.1 : Int) = s)) (decide (last3 g t = e))
  unfold last3 at c2 m2
  unfold term last3
  refine ⟨some (.int (ent g (ent g t.1 t.2.1) t.2.2)), some (.int (ways g.length p (decide ((t.1 : Int) = s)))), ?_⟩
  simp -implicitDefEqProofs only [bodyF, hm1, bnd_some, bnd_none, mpd_some, mpd_none, cnd_true, cnd_false, e_var, vl_int, vl_bool, vl_none, vl_str, vl_list, vl_tuple, vl_edict, vl_cel, vl_scr, e_int, e_str, e_bl, e_non, e_edict, e_bin, e_neg, e_cmp, e_chain, e_and, e_or, e_not, e_ite, e_tup, e_lst, e_call, e_callk, e_bi, e_mt, e_idx, e_sl, e_slr, e_lc, e_thaw, e_lrng, l_nil, l_cons, o_nil, o_cons, t_nil, t_cons, i_rng, i_cons, s_asg, s_asgm, s_asgi, s_par, s_ex, s_ret, s_retm, s_retn, s_iff, s_forr, s_whl, s_pas, s_brk, s_cnt, b_nil, b_cons, th_nx, th_rt, th_bk, th_ct, List.getElem?_cons_zero, List.getElem?_cons_succ, List.map_cons, List.map_nil, List.cons_append, List.nil_append, List.replicate_succ, List.replicate_zero, if_true, if_false, Bool.false_eq_true, Bool.not_true, Bool.not_false, peek_int, peek_bool, peek_none, peek_str, peek_list, peek_tuple, peek_edict, peek_cel, settle_int, settle_bool, settle_none, settle_str, settle_list, settle_tuple, settle_edict, isTrueD_bool, biD, one, two, kindB, tyD, lenD, intOfD, iiD, sumD, listD, tupleD, binD, addD_int, subD, mulD_int, intD, cmpD, cmpI, isD, isNon, eqD_int, eqD_str, outD_rt, outD_rtt, outD_nx, bindT, List.set_cons_zero, List.set_cons_succ, wipeE, frE, celOf_int, celOf_bool, celOf_none, celOf_str, celOf_list, celOf_tuple, celOf_edict, celOf_cel, Option.isNone_none, Option.isNone_some, Bool.and_true, Bool.true_and, Bool.and_false, Bool.false_and, Bool.or_true, Bool.true_or, Bool.or_false, Bool.false_or, beginD_list, beginD_tuple, unlock_none, unlockO, idxD_list, idxD_tuple, setsE, decide_true, decide_false, List.take_nil, List.length_nil, List.length_cons, mtD, List.set_nil, List.getElem?_nil, Nat.zero_add, decide_eq_true_eq, sb_nil, sb_t, sb_f, sb_e, sa_nil, sa_cons, Nat.reduceSub, Nat.reduceLT, Nat.reduceAdd, Nat.reduceMul, Nat.reduceLeDiff, cnd_and, cnd_or, Option.bind_some, Option.map_some, Option.bind_none, Option.map_none, List.length_map, reduceCtorEq, beq_self_eq_true, eqD_nil, line, Nat.zero_le, ixD_0, ixD_1, ixD_2, ixD_last, Int.reduceEq, Int.reduceLT, Int.reduceLE, Int.reduceNeg, Int.reduceAdd, Int.reduceSub, Int.reduceMul, Nat.reduceEqDiff, Int.cast_ofNat_Int, List.getD_cons_zero, List.getD_cons_succ, ixD_int i1, ixD_int i2, ixD_int i3, ixD_int i4, L.get1 i1, L.get1 i4, L.len1 i1, L.len1 i4, L.get2 i1 i2, L.get2 i4 i3, c1, c2, m1, m2]
theorem cl_how_many_slip (S : Sto) : callD (evC tb W (k + 8)) i_how_many_slip [chD g s e, .int l, .int p] S = some (.int (sumI ((swL g).map (term g s e l p))), S) :=
  callD_plain rfl (by
    rw [evC_run (fn := f_how_many_slip) rfl rfl]
    obtain ⟨env', S', h1, w8, w9, w10, w11, w12, h2, h3⟩ := forLoop_ind (tg := .tup (.cons (.var 8) (.cons (.var 9) (.cons (.var 10) .nil)))) (g := triD) (body := bodyF tb (evC tb W (k + 7)) W 0 hm1)
      (fun i env S => ∃ w8 w9 w10 w11 w12, env = [some (chD g s e), some (.int l), some (.int p), some (gD g), some (.int s), some (.int e), some (.int g.length), some (.int (sumI (((swL g).take i).map (term g s e l p)))), w8, w9, w10, w11, w12] ∧ S = []) (swL g)
      (env := [some (chD g s e), some (.int l), some (.int p), some (gD g), some (.int s), some (.int e), some (.int g.length), some (.int 0), none, none, none, none, none]) (S := []) ⟨none, none, none, none, none, rfl, rfl⟩ (by
        rintro i t env S ht ⟨w8, w9, w10, w11, w12, rfl, rfl⟩
        obtain ⟨x11, x12, hb⟩ := hm_in (W := W) G h12 (k + 5) l p hp hl t (List.mem_of_getElem? ht) (sumI (((swL g).take i).map (term g s e l p))) [] w11 w12
        rw [← sumI_snoc (term g s e l p) ht] at hb
        exact ⟨_, _, _, rfl, .inl hb, ⟨_, _, _, _, _, rfl, rfl⟩⟩)
    subst h2 h3
    rw [List.take_length] at h1
    have c1 := cl_check_chain (W := W) k (d := chD g s e) rfl rfl rfl (fun S => G.fits k S) []
    have c2 := cl_check_number_up (W := W) (k + 4) (l : Int) 2 (by omega) []
    have c3 := cl_check_number (W := W) (k + 4) (p : Int) 0 ((l : Int) - 2) (by omega) (by omega) []
    have c4 := cl_swaps (W := W) G.toLat h12 (k + 6) []
    simp -implicitDefEqProofs only [bnd_some, bnd_none, mpd_some, mpd_none, cnd_true, cnd_false, e_var, vl_int, vl_bool, vl_none, vl_str, vl_list, vl_tuple, vl_edict, vl_cel, vl_scr, e_int, e_str, e_bl, e_non, e_edict, e_bin, e_neg, e_cmp, e_chain, e_and, e_or, e_not, e_ite, e_tup, e_lst, e_call, e_callk, e_bi, e_mt, e_idx, e_sl, e_slr, e_lc, e_thaw, e_lrng, l_nil, l_cons, o_nil, o_cons, t_nil, t_cons, i_rng, i_cons, s_asg, s_asgm, s_asgi, s_par, s_ex, s_ret, s_retm, s_retn, s_iff, s_forr, s_whl, s_pas, s_brk, s_cnt, b_nil, b_cons, th_nx, th_rt, th_bk, th_ct, List.getElem?_cons_zero, List.getElem?_cons_succ, List.map_cons, List.map_nil, List.cons_append, List.nil_append, List.replicate_succ, List.replicate_zero, if_true, if_false, Bool.false_eq_true, Bool.not_true, Bool.not_false, peek_int, peek_bool, peek_none, peek_str, peek_list, peek_tuple, peek_edict, peek_cel, settle_int, settle_bool, settle_none, settle_str, settle_list, settle_tuple, settle_edict, isTrueD_bool, biD, one, two, kindB, tyD, lenD, intOfD, iiD, sumD, listD, tupleD, binD, addD_int, subD, mulD_int, intD, cmpD, cmpI, isD, isNon, eqD_int, eqD_str, outD_rt, outD_rtt, outD_nx, bindT, List.set_cons_zero, List.set_cons_succ, wipeE, frE, celOf_int, celOf_bool, celOf_none, celOf_str, celOf_list, celOf_tuple, celOf_edict, celOf_cel, Option.isNone_none, Option.isNone_some, Bool.and_true, Bool.true_and, Bool.and_false, Bool.false_and, Bool.or_true, Bool.true_or, Bool.or_false, Bool.false_or, beginD_list, beginD_tuple, unlock_none, unlockO, idxD_list, idxD_tuple, setsE, decide_true, decide_false, List.take_nil, List.length_nil, List.length_cons, mtD, List.set_nil, List.getElem?_nil, Nat.zero_add, decide_eq_true_eq, sb_nil, sb_t, sb_f, sb_e, sa_nil, sa_cons, Nat.reduceSub, Nat.reduceLT, Nat.reduceAdd, Nat.reduceMul, Nat.reduceLeDiff, cnd_and, cnd_or, Option.bind_some, Option.map_some, Option.bind_none, Option.map_none, List.length_map, reduceCtorEq, beq_self_eq_true, eqD_nil, line, Nat.zero_le, ixD_0, ixD_1, ixD_2, ixD_last, Int.reduceEq, Int.reduceLT, Int.reduceLE, Int.reduceNeg, Int.reduceAdd, Int.reduceSub, Int.reduceMul, Nat.reduceEqDiff, Int.cast_ofNat_Int, List.getD_cons_zero, List.getD_cons_succ, hm_t, c1, c2, c3, c4, h1])
end
end K50
end
section
set_option Elab.async false
set_option linter.all false
set_option maxRecDepth 100000
set_option maxHeartbeats 4000000
namespace K50
open PySem TW
variable {W : Nat}
theorem mul_one_row (x : PyData) (n : Nat) (hn : n ≤ 1000) : mulD (.list [x]) (.int n) = some (.list (List.replicate n x)) := by
  have e : (decide ((0 : Int) ≤ n) && decide ((n : Int) < 2 ^ 63) && decide ([x].length * (n : Int).toNat ≤ line)) = true := by
    rw [Int.toNat_natCast, List.length_singleton, Nat.one_mul]
    rw [decide_eq_true (show (0 : Int) ≤ n by omega), decide_eq_true (show (n : Int) < 2 ^ 63 by omega), decide_eq_true (le_line (show n ≤ 1000000 by omega))]; rfl
  rw [Int.toNat_natCast] at e
  simp only [mulD, Int.toNat_natCast]
  rw [if_pos e]
  have : ∀ m : Nat, (List.replicate m [x]).flatten = List.replicate m x := fun m => by
    induction m with
    | zero => rfl
    | succ m ih => rw [List.replicate_succ, List.flatten_cons, ih]; rfl
  rw [this]
/-! ### lists of counts -/
def stp (n : Nat) (c m : Int) (taken : List Int) : List Int := (List.range n).map fun (q : Nat) => c + if (q : Int) ∈ taken then m else 0
theorem stp_len (n : Nat) (c m : Int) (t : List Int) : (stp n c m t).length = n := by simp [stp]
theorem stp_get {n : Nat} {c m : Int} {t : List Int} {i : Nat} (h : i < n) : (stp n c m t)[i]? = some (c + if (i : Int) ∈ t then m else 0) := by
  unfold stp
  rw [List.getElem?_map, List.getElem?_range h]; rfl
theorem stp_set {n : Nat} {c m : Int} {t : List Int} {x : Int} (hx : inB n x = true) (hn : x ∉ t) : (stp n c m t).set x.toNat (c + 0 + m) = stp n c m (t ++ [x]) := by
  obtain ⟨x0, x1⟩ := inB_iff.mp hx
  apply List.ext_getElem?
  intro i
  by_cases hi : i < n
  · rw [stp_get hi]
    by_cases e : x.toNat = i
    · subst e
      rw [List.getElem?_set_self (by rw [stp_len]; exact hi), if_pos (by rw [show ((x.toNat : Nat) : Int) = x by omega]; simp)]
      rw [Int.add_zero]
    · rw [List.getElem?_set_ne e, stp_get hi]
      congr 2
      have : (i : Int) ≠ x := by omega
      simp [this]
  · rw [List.getElem?_eq_none (by rw [List.length_set, stp_len]; omega), List.getElem?_eq_none (by rw [stp_len]; omega)]
theorem stp_nil (n : Nat) (c m m' : Int) : stp n c m [] = stp n c m' [] := by simp [stp]
theorem stp_all {n : Nat} {c m : Int} {t : List Int} (h : ∀ x, inB n x = true → x ∈ t) (m' : Int) : stp n c m t = stp n (c + m) m' [] := by
  unfold stp
  apply List.map_congr_left
  intro q hq
  have hq := List.mem_range.mp hq
  rw [if_pos (h q (inB_iff.mpr ⟨by omega, by omega⟩)), if_neg (by simp), Int.add_zero]
def re3 : T := (.cons (.asgi 5 (.var 8) (.bin .add (.idx (.var 5) (.var 8)) (.var 7))) .nil)
def re2 : T := (.cons (.forr (.var 8) (.cons (.idx (.var 0) (.var 6)) .nil) re3) .nil)
def re1 : T := (.cons (.asgm 5 (.bin .mul (.lst (.cons (.int 0) .nil)) (.bi .len (.cons (.var 0) .nil)))) (.cons (.forr (.tup (.cons (.var 6) (.cons (.var 7) .nil))) (.enumr (.var 3)) re2) (.cons (.asg (.var 3) (.var 5)) .nil)))
theorem re_t : t_law_reached = (.cons (.asg (.var 3) (.lc [6] (.var 6) (.rng (.cons (.bi .len (.cons (.var 0) .nil)) .nil)) .nil (.bi .int (.cons (.cmp .eq (.var 6) (.var 1)) .nil)))) (.cons (.forr (.var 4) (.rng (.cons (.var 2) .nil)) re1) (.cons (.ret (.var 3)) .nil))) := rfl
theorem peek_at (R : Sto) (m : Nat) (d : PyData) : peek (R ++ [(m, d)]) (cel R.length) = d := by
  rw [peek_cel, List.getElem?_concat_length]
theorem set_at (R : Sto) (c c' : Cell) : (R ++ [c]).set R.length c' = R ++ [c'] := by
  rw [List.set_append_right _ _ (Nat.le_refl _), Nat.sub_self]; rfl
theorem re_in (k : Nat) (R : Sto) (n : Nat) (hn : n ≤ 1000) (c m : Int) (t : List Int) (x : Int) (hx : inB n x = true) (hxn : x ∉ t) (v0 v1 v2 v3 v4 v6 : Option PyData) :
    bodyF tb (evC tb W k) W 0 re3 [v0, v1, v2, v3, v4, some (cel R.length), v6, some (.int m), some (.int x)] (R ++ [(0, iL (stp n c m t))])
      = some (.nx [v0, v1, v2, v3, v4, some (cel R.length), v6, some (.int m), some (.int x)] (R ++ [(0, iL (stp n c m (t ++ [x])))])) := by
  obtain ⟨x0, x1⟩ := inB_iff.mp hx
  have pk := peek_at R 0 (iL (stp n c m t))
  have gl : (R ++ [(0, iL (stp n c m t))])[R.length]? = some (0, iL (stp n c m t)) := List.getElem?_concat_length ..
  have g1 : ((stp n c m t).map PyData.int)[x.toNat]? = some (.int (c + 0)) := by
    rw [List.getElem?_map, stp_get (by omega), if_neg (by rw [show ((x.toNat : Nat) : Int) = x by omega]; exact hxn)]; rfl
  have g2 : ((stp n c m t).map PyData.int).set x.toNat (.int (c + 0 + m)) = (stp n c m (t ++ [x])).map PyData.int := by
    rw [← stp_set hx hxn, List.map_set]
  have g3 := set_at R (0, iL (stp n c m t)) (0, iL (stp n c m (t ++ [x])))
  simp -implicitDefEqProofs only [bodyF, re3, bnd_some, bnd_none, mpd_some, mpd_none, cnd_true, cnd_false, e_var, vl_int, vl_bool, vl_none, vl_str, vl_list, vl_tuple, vl_edict, vl_cel, vl_scr, e_int, e_str, e_bl, e_non, e_edict, e_bin, e_neg, e_cmp, e_chain, e_and, e_or, e_not, e_ite, e_tup, e_lst, e_call, e_callk, e_bi, e_mt, e_idx, e_sl, e_slr, e_lc, e_thaw, e_lrng, l_nil, l_cons, o_nil, o_cons, t_nil, t_cons, i_rng, i_cons, s_asg, s_asgm, s_asgi, s_par, s_ex, s_ret, s_retm, s_retn, s_iff, s_forr, s_whl, s_pas, s_brk, s_cnt, b_nil, b_cons, th_nx, th_rt, th_bk, th_ct, List.getElem?_cons_zero, List.getElem?_cons_succ, List.map_cons, List.map_nil, List.cons_append, List.nil_append, List.replicate_succ, List.replicate_zero, if_true, if_false, Bool.false_eq_true, Bool.not_true, Bool.not_false, peek_int, peek_bool, peek_none, peek_str, peek_list, peek_tuple, peek_edict, peek_cel, settle_int, settle_bool, settle_none, settle_str, settle_list, settle_tuple, settle_edict, isTrueD_bool, biD, one, two, kindB, tyD, lenD, intOfD, iiD, sumD, listD, tupleD, binD, addD_int, subD, mulD_int, intD, cmpD, cmpI, isD, isNon, eqD_int, eqD_str, outD_rt, outD_rtt, outD_nx, bindT, List.set_cons_zero, List.set_cons_succ, wipeE, frE, celOf_int, celOf_bool, celOf_none, celOf_str, celOf_list, celOf_tuple, celOf_edict, celOf_cel, Option.isNone_none, Option.isNone_some, Bool.and_true, Bool.true_and, Bool.and_false, Bool.false_and, Bool.or_true, Bool.true_or, Bool.or_false, Bool.false_or, beginD_list, beginD_tuple, unlock_none, unlockO, idxD_list, idxD_tuple, setsE, decide_true, decide_false, List.take_nil, List.length_nil, List.length_cons, mtD, List.set_nil, List.getElem?_nil, Nat.zero_add, decide_eq_true_eq, sb_nil, sb_t, sb_f, sb_e, sa_nil, sa_cons, Nat.reduceSub, Nat.reduceLT, Nat.reduceAdd, Nat.reduceMul, Nat.reduceLeDiff, cnd_and, cnd_or, Option.bind_some, Option.map_some, Option.bind_none, Option.map_none, List.length_map, reduceCtorEq, beq_self_eq_true, eqD_nil, line, Nat.zero_le, ixD_0, ixD_1, ixD_2, ixD_last, Int.reduceEq, Int.reduceLT, Int.reduceLE, Int.reduceNeg, Int.reduceAdd, Int.reduceSub, Int.reduceMul, Nat.reduceEqDiff, Int.cast_ofNat_Int, List.getD_cons_zero, List.getD_cons_succ, s_asgi, pk, gl, stp_len, ixD_int hx, g1, g2, g3]
section
variable {g : List (List Int)} (G : Lat g) (h12 : g.length ≤ 12) (k : Nat)
include G h12
theorem re_mid (R : Sto) (c m : Int) {s : Nat} (hs : s < g.length) (v1 v2 v3 v4 v8 : Option PyData) :
    ∃ w8, bodyF tb (evC tb W k) W 0 re2 [some (gD g), v1, v2, v3, v4, some (cel R.length), some (.int s), some (.int m), v8] (R ++ [(0, iL (stp g.length c m []))])
      = some (.nx [some (gD g), v1, v2, v3, v4, some (cel R.length), some (.int s), some (.int m), w8] (R ++ [(0, iL (stp g.length (c + m) 0 []))])) := by
  have is : inB g.length (s : Int) = true := inB_iff.mpr ⟨by omega, by omega⟩
  obtain ⟨o1, o2, o3⟩ := once_facts (G.rowL is)
  obtain ⟨env', S', h1, w8, h2, h3⟩ := forLoop_ind (tg := .var 8) (g := PyData.int) (body := bodyF tb (evC tb W k) W 0 re3)
    (fun i env S => ∃ w8, env = [some (gD g), v1, v2, v3, v4, some (cel R.length), some (.int s), some (.int m), w8] ∧ S = R ++ [(0, iL (stp g.length c m ((g.getD (s : Int).toNat []).take i)))]) (g.getD (s : Int).toNat [])
    (env := [some (gD g), v1, v2, v3, v4, some (cel R.length), some (.int s), some (.int m), v8]) (S := R ++ [(0, iL (stp g.length c m []))]) ⟨v8, rfl, rfl⟩ (by
      rintro i x env S hx ⟨w8, rfl, rfl⟩
      have hin : inB g.length x = true := List.all_eq_true.mp o2 x (List.mem_of_getElem? hx)
      have hnot : x ∉ (g.getD (s : Int).toNat []).take i := fun hm => by
        obtain ⟨j, hj, ej⟩ := List.getElem_of_mem hm
        rw [List.length_take] at hj
        rw [List.getElem_take] at ej
        have := nodup_at o3 (i := j) (j := i) (by rw [List.getElem?_eq_getElem (by omega), ej]) hx
        omega
      have hb := re_in (W := W) k R g.length (by omega) c m ((g.getD (s : Int).toNat []).take i) x hin hnot (some (gD g)) v1 v2 v3 v4 (some (.int s))
      have et : (g.getD (s : Int).toNat []).take (i + 1) = (g.getD (s : Int).toNat []).take i ++ [x] := by rw [List.take_add_one, hx]; rfl
      rw [← et] at hb
      exact ⟨_, _, _, rfl, .inl hb, ⟨_, rfl, rfl⟩⟩)
  subst h2 h3
  rw [List.take_length, stp_all (fun x hx => all_met o3 o1 o2 hx) 0] at h1
  refine ⟨w8, ?_⟩
  simp -implicitDefEqProofs only [bodyF, re2, bnd_some, bnd_none, mpd_some, mpd_none, cnd_true, cnd_false, e_var, vl_int, vl_bool, vl_none, vl_str, vl_list, vl_tuple, vl_edict, vl_cel, vl_scr, e_int, e_str, e_bl, e_non, e_edict, e_bin, e_neg, e_cmp, e_chain, e_and, e_or, e_not, e_ite, e_tup, e_lst, e_call, e_callk, e_bi, e_mt, e_idx, e_sl, e_slr, e_lc, e_thaw, e_lrng, l_nil, l_cons, o_nil, o_cons, t_nil, t_cons, i_rng, i_cons, s_asg, s_asgm, s_asgi, s_par, s_ex, s_ret, s_retm, s_retn, s_iff, s_forr, s_whl, s_pas, s_brk, s_cnt, b_nil, b_cons, th_nx, th_rt, th_bk, th_ct, List.getElem?_cons_zero, List.getElem?_cons_succ, List.map_cons, List.map_nil, List.cons_append, List.nil_append, List.replicate_succ, List.replicate_zero, if_true, if_false, Bool.false_eq_true, Bool.not_true, Bool.not_false, peek_int, peek_bool, peek_none, peek_str, peek_list, peek_tuple, peek_edict, peek_cel, settle_int, settle_bool, settle_none, settle_str, settle_list, settle_tuple, settle_edict, isTrueD_bool, biD, one, two, kindB, tyD, lenD, intOfD, iiD, sumD, listD, tupleD, binD, addD_int, subD, mulD_int, intD, cmpD, cmpI, isD, isNon, eqD_int, eqD_str, outD_rt, outD_rtt, outD_nx, bindT, List.set_cons_zero, List.set_cons_succ, wipeE, frE, celOf_int, celOf_bool, celOf_none, celOf_str, celOf_list, celOf_tuple, celOf_edict, celOf_cel, Option.isNone_none, Option.isNone_some, Bool.and_true, Bool.true_and, Bool.and_false, Bool.false_and, Bool.or_true, Bool.true_or, Bool.or_false, Bool.false_or, beginD_list, beginD_tuple, unlock_none, unlockO, idxD_list, idxD_tuple, setsE, decide_true, decide_false, List.take_nil, List.length_nil, List.length_cons, mtD, List.set_nil, List.getElem?_nil, Nat.zero_add, decide_eq_true_eq, sb_nil, sb_t, sb_f, sb_e, sa_nil, sa_cons, Nat.reduceSub, Nat.reduceLT, Nat.reduceAdd, Nat.reduceMul, Nat.reduceLeDiff, cnd_and, cnd_or, Option.bind_some, Option.map_some, Option.bind_none, Option.map_none, List.length_map, reduceCtorEq, beq_self_eq_true, eqD_nil, line, Nat.zero_le, ixD_0, ixD_1, ixD_2, ixD_last, Int.reduceEq, Int.reduceLT, Int.reduceLE, Int.reduceNeg, Int.reduceAdd, Int.reduceSub, Int.reduceMul, Nat.reduceEqDiff, Int.cast_ofNat_Int, List.getD_cons_zero, List.getD_cons_succ, ixD_int is, G.get1 is, h1]
theorem re_out (R : Sto) (cs : List Int) (hcs : cs.length = g.length) (v1 v2 v4 v5 v6 v7 v8 : Option PyData) :
    ∃ w5 w6 w7 w8 R', bodyF tb (evC tb W k) W 0 re1 [some (gD g), v1, v2, some (iL cs), v4, v5, v6, v7, v8] R
      = some (.nx [some (gD g), v1, v2, some (iL (stp g.length (sumI cs) 0 [])), v4, w5, w6, w7, w8] R') := by
  obtain ⟨env', S', h1, w6, w7, w8, h2, h3⟩ := forLoop_ind (tg := .tup (.cons (.var 6) (.cons (.var 7) .nil))) (g := fun (i : Nat) => PyData.tuple [.int i, .int (cs.getD i 0)]) (body := bodyF tb (evC tb W k) W 0 re2)
    (fun i env S => ∃ w6 w7 w8, env = [some (gD g), v1, v2, some (iL cs), v4, some (cel R.length), w6, w7, w8] ∧ S = R ++ [(0, iL (stp g.length (sumI (((List.range cs.length).take i).map fun i => cs.getD i 0)) 0 []))]) (List.range cs.length)
    (env := [some (gD g), v1, v2, some (iL cs), v4, some (cel R.length), v6, v7, v8]) (S := R ++ [(0, iL (stp g.length 0 0 []))]) ⟨v6, v7, v8, rfl, rfl⟩ (by
      rintro i s env S hs ⟨w6, w7, w8, rfl, rfl⟩
      have hsn : s < g.length := by rw [← hcs]; exact List.mem_range.mp (List.mem_of_getElem? hs)
      obtain ⟨x8, hb⟩ := re_mid (W := W) G h12 k R (sumI (((List.range cs.length).take i).map fun i => cs.getD i 0)) (cs.getD s 0) hsn v1 v2 (some (iL cs)) v4 w8
      rw [stp_nil _ _ (cs.getD s 0) 0, ← sumI_snoc (fun i => cs.getD i 0) hs] at hb
      exact ⟨_, _, _, rfl, .inl hb, ⟨_, _, _, rfl, rfl⟩⟩)
  subst h2 h3
  rw [List.take_length] at h1
  have ecs : (List.range cs.length).map (fun i => cs.getD i 0) = cs := by
    apply List.ext_getElem
    · simp
    · intro i h1 h2
      simp [h2]
  rw [ecs] at h1
  have hm := mul_one_row (.int 0) g.length (by omega)
  have e0 : List.replicate g.length (PyData.int 0) = (stp g.length 0 0 []).map PyData.int := by
    apply List.ext_getElem
    · simp [stp]
    · intro i h1 h2
      simp [stp]
  rw [e0] at hm
  have st : TW.settle (R ++ [(0, iL (stp g.length (sumI cs) 0 []))]) (cel R.length) = some (iL (stp g.length (sumI cs) 0 []), R ++ [(2, iL (stp g.length (sumI cs) 0 []))]) := by
    unfold TW.settle
    rw [celOf_cel]
    simp only [List.getElem?_concat_length, set_at]
  refine ⟨some (cel R.length), w6, w7, w8, R ++ [(2, iL (stp g.length (sumI cs) 0 []))], ?_⟩
  have hf : frE tb (.bin .mul (.lst (.cons (.int 0) .nil)) (.bi .len (.cons (.var 0) .nil))) = true := rfl
  show evB tb (evC tb W k) W 0 re1 _ _ = _
  unfold re1
  have t1 : evS tb (evC tb W k) W 0 (.asgm 5 (.bin .mul (.lst (.cons (.int 0) .nil)) (.bi .len (.cons (.var 0) .nil)))) [some (gD g), v1, v2, some (iL cs), v4, v5, v6, v7, v8] R = some (.nx [some (gD g), v1, v2, some (iL cs), v4, some (cel R.length), v6, v7, v8] (R ++ [(0, iL (stp g.length 0 0 []))])) := by
    rw [s_asgm, hf]
    simp -implicitDefEqProofs only [bnd_some, bnd_none, mpd_some, mpd_none, cnd_true, cnd_false, e_var, vl_int, vl_bool, vl_none, vl_str, vl_list, vl_tuple, vl_edict, vl_cel, vl_scr, e_int, e_str, e_bl, e_non, e_edict, e_bin, e_neg, e_cmp, e_chain, e_and, e_or, e_not, e_ite, e_tup, e_lst, e_call, e_callk, e_bi, e_mt, e_idx, e_sl, e_slr, e_lc, e_thaw, e_lrng, l_nil, l_cons, o_nil, o_cons, t_nil, t_cons, i_rng, i_cons, s_asg, s_asgm, s_asgi, s_par, s_ex, s_ret, s_retm, s_retn, s_iff, s_forr, s_whl, s_pas, s_brk, s_cnt, b_nil, b_cons, th_nx, th_rt, th_bk, th_ct, List.getElem?_cons_zero, List.getElem?_cons_succ, List.map_cons, List.map_nil, List.cons_append, List.nil_append, List.replicate_succ, List.replicate_zero, if_true, if_false, Bool.false_eq_true, Bool.not_true, Bool.not_false, peek_int, peek_bool, peek_none, peek_str, peek_list, peek_tuple, peek_edict, peek_cel, settle_int, settle_bool, settle_none, settle_str, settle_list, settle_tuple, settle_edict, isTrueD_bool, biD, one, two, kindB, tyD, lenD, intOfD, iiD, sumD, listD, tupleD, binD, addD_int, subD, mulD_int, intD, cmpD, cmpI, isD, isNon, eqD_int, eqD_str, outD_rt, outD_rtt, outD_nx, bindT, List.set_cons_zero, List.set_cons_succ, wipeE, frE, celOf_int, celOf_bool, celOf_none, celOf_str, celOf_list, celOf_tuple, celOf_edict, celOf_cel, Option.isNone_none, Option.isNone_some, Bool.and_true, Bool.true_and, Bool.and_false, Bool.false_and, Bool.or_true, Bool.true_or, Bool.or_false, Bool.false_or, beginD_list, beginD_tuple, unlock_none, unlockO, idxD_list, idxD_tuple, setsE, decide_true, decide_false, List.take_nil, List.length_nil, List.length_cons, mtD, List.set_nil, List.getElem?_nil, Nat.zero_add, decide_eq_true_eq, sb_nil, sb_t, sb_f, sb_e, sa_nil, sa_cons, Nat.reduceSub, Nat.reduceLT, Nat.reduceAdd, Nat.reduceMul, Nat.reduceLeDiff, cnd_and, cnd_or, Option.bind_some, Option.map_some, Option.bind_none, Option.map_none, List.length_map, reduceCtorEq, beq_self_eq_true, eqD_nil, line, Nat.zero_le, ixD_0, ixD_1, ixD_2, ixD_last, Int.reduceEq, Int.reduceLT, Int.reduceLE, Int.reduceNeg, Int.reduceAdd, Int.reduceSub, Int.reduceMul, Nat.reduceEqDiff, Int.cast_ofNat_Int, List.getD_cons_zero, List.getD_cons_succ, hm]
  have t2 : evS tb (evC tb W k) W 0 (.forr (.tup (.cons (.var 6) (.cons (.var 7) .nil))) (.enumr (.var 3)) re2) [some (gD g), v1, v2, some (iL cs), v4, some (cel R.length), v6, v7, v8] (R ++ [(0, iL (stp g.length 0 0 []))]) = some (.nx [some (gD g), v1, v2, some (iL cs), v4, some (cel R.length), w6, w7, w8] (R ++ [(0, iL (stp g.length (sumI cs) 0 []))])) := by
    simp -implicitDefEqProofs only [bnd_some, bnd_none, mpd_some, mpd_none, cnd_true, cnd_false, e_var, vl_int, vl_bool, vl_none, vl_str, vl_list, vl_tuple, vl_edict, vl_cel, vl_scr, e_int, e_str, e_bl, e_non, e_edict, e_bin, e_neg, e_cmp, e_chain, e_and, e_or, e_not, e_ite, e_tup, e_lst, e_call, e_callk, e_bi, e_mt, e_idx, e_sl, e_slr, e_lc, e_thaw, e_lrng, l_nil, l_cons, o_nil, o_cons, t_nil, t_cons, i_rng, i_cons, s_asg, s_asgm, s_asgi, s_par, s_ex, s_ret, s_retm, s_retn, s_iff, s_forr, s_whl, s_pas, s_brk, s_cnt, b_nil, b_cons, th_nx, th_rt, th_bk, th_ct, List.getElem?_cons_zero, List.getElem?_cons_succ, List.map_cons, List.map_nil, List.cons_append, List.nil_append, List.replicate_succ, List.replicate_zero, if_true, if_false, Bool.false_eq_true, Bool.not_true, Bool.not_false, peek_int, peek_bool, peek_none, peek_str, peek_list, peek_tuple, peek_edict, peek_cel, settle_int, settle_bool, settle_none, settle_str, settle_list, settle_tuple, settle_edict, isTrueD_bool, biD, one, two, kindB, tyD, lenD, intOfD, iiD, sumD, listD, tupleD, binD, addD_int, subD, mulD_int, intD, cmpD, cmpI, isD, isNon, eqD_int, eqD_str, outD_rt, outD_rtt, outD_nx, bindT, List.set_cons_zero, List.set_cons_succ, wipeE, frE, celOf_int, celOf_bool, celOf_none, celOf_str, celOf_list, celOf_tuple, celOf_edict, celOf_cel, Option.isNone_none, Option.isNone_some, Bool.and_true, Bool.true_and, Bool.and_false, Bool.false_and, Bool.or_true, Bool.true_or, Bool.or_false, Bool.false_or, beginD_list, beginD_tuple, unlock_none, unlockO, idxD_list, idxD_tuple, setsE, decide_true, decide_false, List.take_nil, List.length_nil, List.length_cons, mtD, List.set_nil, List.getElem?_nil, Nat.zero_add, decide_eq_true_eq, sb_nil, sb_t, sb_f, sb_e, sa_nil, sa_cons, Nat.reduceSub, Nat.reduceLT, Nat.reduceAdd, Nat.reduceMul, Nat.reduceLeDiff, cnd_and, cnd_or, Option.bind_some, Option.map_some, Option.bind_none, Option.map_none, List.length_map, reduceCtorEq, beq_self_eq_true, eqD_nil, line, Nat.zero_le, ixD_0, ixD_1, ixD_2, ixD_last, Int.reduceEq, Int.reduceLT, Int.reduceLE, Int.reduceNeg, Int.reduceAdd, Int.reduceSub, Int.reduceMul, Nat.reduceEqDiff, Int.cast_ofNat_Int, List.getD_cons_zero, List.getD_cons_succ, i_enumr, enD_list, numbered_ints, h1]
  have t3 : evS tb (evC tb W k) W 0 (.asg (.var 3) (.var 5)) [some (gD g), v1, v2, some (iL cs), v4, some (cel R.length), w6, w7, w8] (R ++ [(0, iL (stp g.length (sumI cs) 0 []))]) = some (.nx [some (gD g), v1, v2, some (iL (stp g.length (sumI cs) 0 [])), v4, some (cel R.length), w6, w7, w8] (R ++ [(2, iL (stp g.length (sumI cs) 0 []))])) := by
    simp -implicitDefEqProofs only [bnd_some, bnd_none, mpd_some, mpd_none, cnd_true, cnd_false, e_var, vl_int, vl_bool, vl_none, vl_str, vl_list, vl_tuple, vl_edict, vl_cel, vl_scr, e_int, e_str, e_bl, e_non, e_edict, e_bin, e_neg, e_cmp, e_chain, e_and, e_or, e_not, e_ite, e_tup, e_lst, e_call, e_callk, e_bi, e_mt, e_idx, e_sl, e_slr, e_lc, e_thaw, e_lrng, l_nil, l_cons, o_nil, o_cons, t_nil, t_cons, i_rng, i_cons, s_asg, s_asgm, s_asgi, s_par, s_ex, s_ret, s_retm, s_retn, s_iff, s_forr, s_whl, s_pas, s_brk, s_cnt, b_nil, b_cons, th_nx, th_rt, th_bk, th_ct, List.getElem?_cons_zero, List.getElem?_cons_succ, List.map_cons, List.map_nil, List.cons_append, List.nil_append, List.replicate_succ, List.replicate_zero, if_true, if_false, Bool.false_eq_true, Bool.not_true, Bool.not_false, peek_int, peek_bool, peek_none, peek_str, peek_list, peek_tuple, peek_edict, peek_cel, settle_int, settle_bool, settle_none, settle_str, settle_list, settle_tuple, settle_edict, isTrueD_bool, biD, one, two, kindB, tyD, lenD, intOfD, iiD, sumD, listD, tupleD, binD, addD_int, subD, mulD_int, intD, cmpD, cmpI, isD, isNon, eqD_int, eqD_str, outD_rt, outD_rtt, outD_nx, bindT, List.set_cons_zero, List.set_cons_succ, wipeE, frE, celOf_int, celOf_bool, celOf_none, celOf_str, celOf_list, celOf_tuple, celOf_edict, celOf_cel, Option.isNone_none, Option.isNone_some, Bool.and_true, Bool.true_and, Bool.and_false, Bool.false_and, Bool.or_true, Bool.true_or, Bool.or_false, Bool.false_or, beginD_list, beginD_tuple, unlock_none, unlockO, idxD_list, idxD_tuple, setsE, decide_true, decide_false, List.take_nil, List.length_nil, List.length_cons, mtD, List.set_nil, List.getElem?_nil, Nat.zero_add, decide_eq_true_eq, sb_nil, sb_t, sb_f, sb_e, sa_nil, sa_cons, Nat.reduceSub, Nat.reduceLT, Nat.reduceAdd, Nat.reduceMul, Nat.reduceLeDiff, cnd_and, cnd_or, Option.bind_some, Option.map_some, Option.bind_none, Option.map_none, List.length_map, reduceCtorEq, beq_self_eq_true, eqD_nil, line, Nat.zero_le, ixD_0, ixD_1, ixD_2, ixD_last, Int.reduceEq, Int.reduceLT, Int.reduceLE, Int.reduceNeg, Int.reduceAdd, Int.reduceSub, Int.reduceMul, Nat.reduceEqDiff, Int.cast_ofNat_Int, List.getD_cons_zero, List.getD_cons_succ, st]
  rw [b_cons, t1, bnd_some, th_nx, b_cons, t2, bnd_some, th_nx, b_cons, t3, bnd_some, th_nx, b_nil]
end
/-! ### counts are ways -/
def rch (n : Nat) (s : Int) (t : Nat) : List Int := (List.range n).map fun (q : Nat) => ways n t (decide ((q : Int) = s))
theorem rch_len (n : Nat) (s : Int) (t : Nat) : (rch n s t).length = n := by simp [rch]
theorem sum_one (n : Nat) (s : Int) : sumI ((List.range n).map fun (q : Nat) => if decide ((q : Int) = s) then (1 : Int) else 0) = if inB n s then 1 else 0 := by
  induction n with
  | zero =>
    have : inB 0 s = false := by
      cases h : inB 0 s with
      | false => rfl
      | true => have := inB_iff.mp h; omega
    rw [this]; rfl
  | succ n ih =>
    rw [List.range_succ, List.map_append, sumI_app, ih]
    show _ + ((if decide ((n : Int) = s) then (1 : Int) else 0) + 0) = _
    by_cases e : (n : Int) = s
    · have h1 : inB n s = false := by
        cases h : inB n s with
        | false => rfl
        | true => have := inB_iff.mp h; omega
      have h2 : inB (n + 1) s = true := inB_iff.mpr ⟨by omega, by omega⟩
      rw [h1, h2, decide_eq_true e]; rfl
    · rw [decide_eq_false e]
      have : inB (n + 1) s = inB n s := by
        cases h : inB n s with
        | true =>
          have := inB_iff.mp h
          exact inB_iff.mpr ⟨by omega, by omega⟩
        | false =>
          cases h2 : inB (n + 1) s with
          | false => rfl
          | true =>
            have := inB_iff.mp h2
            have h3 : inB n s = true := inB_iff.mpr ⟨by omega, by omega⟩
            rw [h] at h3; cases h3
      rw [this]
      split <;> rfl
theorem sum_const (n : Nat) (c : Int) : sumI ((List.range n).map fun _ => c) = n * c := by
  induction n with
  | zero => simp [sumI]
  | succ n ih =>
    rw [List.range_succ, List.map_append, sumI_app, ih]
    show _ + (c + 0) = _
    rw [Int.add_zero, show ((n + 1 : Nat) : Int) = (n : Int) + 1 by omega, Int.add_mul, Int.one_mul]
theorem sum_rch {n : Nat} {s : Int} (hs : inB n s = true) (t : Nat) : sumI (rch n s t) = (n : Int) ^ t := by
  cases t with
  | zero =>
    have := sum_one n s
    rw [hs, if_pos rfl] at this
    exact this
  | succ t =>
    have : rch n s (t + 1) = (List.range n).map fun _ => (n : Int) ^ t := by
      unfold rch ways
      simp
    rw [this, sum_const, Int.pow_succ, Int.mul_comm]
theorem rch_next {n : Nat} {s : Int} (hs : inB n s = true) (t : Nat) : stp n (sumI (rch n s t)) 0 [] = rch n s (t + 1) := by
  rw [sum_rch hs]
  unfold stp rch ways
  simp
theorem cl_reached {g : List (List Int)} (G : Lat g) (h12 : g.length ≤ 12) (k : Nat) {s : Int} (hs : inB g.length s = true) (l : Nat) (hl : l ≤ 1000) (S : Sto) :
    callD (evC tb W (k + 1)) i_law_reached [gD g, .int s, .int l] S = some (iL (rch g.length s l), S) :=
  callD_plain rfl (by
    rw [evC_run (fn := f_law_reached) rfl rfl]
    obtain ⟨env', S', h1, w4, w5, w6, w7, w8, h2⟩ := forLoop_ind (tg := .var 4) (g := fun (i : Nat) => PyData.int i) (body := bodyF tb (evC tb W k) W 0 re1)
      (fun i env S => ∃ w4 w5 w6 w7 w8, env = [some (gD g), some (.int s), some (.int l), some (iL (rch g.length s i)), w4, w5, w6, w7, w8]) (List.range l)
      (env := [some (gD g), some (.int s), some (.int l), some (iL (rch g.length s 0)), none, none, none, none, none]) (S := []) ⟨none, none, none, none, none, rfl⟩ (by
        rintro i a env S ha ⟨w4, w5, w6, w7, w8, rfl⟩
        obtain ⟨x5, x6, x7, x8, R', hb⟩ := re_out (W := W) G h12 k S (rch g.length s i) (rch_len ..) (some (.int s)) (some (.int l)) (some (.int a)) w5 w6 w7 w8
        rw [rch_next hs] at hb
        exact ⟨_, _, _, rfl, .inl hb, ⟨_, _, _, _, _, rfl⟩⟩)
    subst h2
    rw [List.length_range] at h1
    have hlc := lcLoop_all (one := lcOne tb (evC tb W k) [some (gD g), some (.int s), some (.int l), none, none, none, none, none, none] [6] (.var 6) .nil (.bi .int (.cons (.cmp .eq (.var 6) (.var 1)) .nil))) (f := fun (i : Nat) => PyData.int i) (g := fun (i : Nat) => PyData.int (ways g.length 0 (decide ((i : Int) = s)))) (S := []) (List.range g.length) (fun i hi => by
      simp -implicitDefEqProofs only [lcOne, bnd_some, bnd_none, mpd_some, mpd_none, cnd_true, cnd_false, e_var, vl_int, vl_bool, vl_none, vl_str, vl_list, vl_tuple, vl_edict, vl_cel, vl_scr, e_int, e_str, e_bl, e_non, e_edict, e_bin, e_neg, e_cmp, e_chain, e_and, e_or, e_not, e_ite, e_tup, e_lst, e_call, e_callk, e_bi, e_mt, e_idx, e_sl, e_slr, e_lc, e_thaw, e_lrng, l_nil, l_cons, o_nil, o_cons, t_nil, t_cons, i_rng, i_cons, s_asg, s_asgm, s_asgi, s_par, s_ex, s_ret, s_retm, s_retn, s_iff, s_forr, s_whl, s_pas, s_brk, s_cnt, b_nil, b_cons, th_nx, th_rt, th_bk, th_ct, List.getElem?_cons_zero, List.getElem?_cons_succ, List.map_cons, List.map_nil, List.cons_append, List.nil_append, List.replicate_succ, List.replicate_zero, if_true, if_false, Bool.false_eq_true, Bool.not_true, Bool.not_false, peek_int, peek_bool, peek_none, peek_str, peek_list, peek_tuple, peek_edict, peek_cel, settle_int, settle_bool, settle_none, settle_str, settle_list, settle_tuple, settle_edict, isTrueD_bool, biD, one, two, kindB, tyD, lenD, intOfD, iiD, sumD, listD, tupleD, binD, addD_int, subD, mulD_int, intD, cmpD, cmpI, isD, isNon, eqD_int, eqD_str, outD_rt, outD_rtt, outD_nx, bindT, List.set_cons_zero, List.set_cons_succ, wipeE, frE, celOf_int, celOf_bool, celOf_none, celOf_str, celOf_list, celOf_tuple, celOf_edict, celOf_cel, Option.isNone_none, Option.isNone_some, Bool.and_true, Bool.true_and, Bool.and_false, Bool.false_and, Bool.or_true, Bool.true_or, Bool.or_false, Bool.false_or, beginD_list, beginD_tuple, unlock_none, unlockO, idxD_list, idxD_tuple, setsE, decide_true, decide_false, List.take_nil, List.length_nil, List.length_cons, mtD, List.set_nil, List.getElem?_nil, Nat.zero_add, decide_eq_true_eq, sb_nil, sb_t, sb_f, sb_e, sa_nil, sa_cons, Nat.reduceSub, Nat.reduceLT, Nat.reduceAdd, Nat.reduceMul, Nat.reduceLeDiff, cnd_and, cnd_or, Option.bind_some, Option.map_some, Option.bind_none, Option.map_none, List.length_map, reduceCtorEq, beq_self_eq_true, eqD_nil, line, Nat.zero_le, ixD_0, ixD_1, ixD_2, ixD_last, Int.reduceEq, Int.reduceLT, Int.reduceLE, Int.reduceNeg, Int.reduceAdd, Int.reduceSub, Int.reduceMul, Nat.reduceEqDiff, Int.cast_ofNat_Int, List.getD_cons_zero, List.getD_cons_succ]
      unfold ways
      by_cases h : (i : Int) = s <;> simp [h]) (by rw [List.length_range]; exact le_line (by omega))
    have e0 : (List.range g.length).map (fun (i : Nat) => PyData.int (ways g.length 0 (decide ((i : Int) = s)))) = (rch g.length s 0).map PyData.int := by
      unfold rch
      rw [List.map_map]; rfl
    rw [e0] at hlc
    have hr := rngD_one (show g.length < 2 ^ 62 by omega)
    have hr2 := rngD_one (show l < 2 ^ 62 by omega)
    simp -implicitDefEqProofs only [bnd_some, bnd_none, mpd_some, mpd_none, cnd_true, cnd_false, e_var, vl_int, vl_bool, vl_none, vl_str, vl_list, vl_tuple, vl_edict, vl_cel, vl_scr, e_int, e_str, e_bl, e_non, e_edict, e_bin, e_neg, e_cmp, e_chain, e_and, e_or, e_not, e_ite, e_tup, e_lst, e_call, e_callk, e_bi, e_mt, e_idx, e_sl, e_slr, e_lc, e_thaw, e_lrng, l_nil, l_cons, o_nil, o_cons, t_nil, t_cons, i_rng, i_cons, s_asg, s_asgm, s_asgi, s_par, s_ex, s_ret, s_retm, s_retn, s_iff, s_forr, s_whl, s_pas, s_brk, s_cnt, b_nil, b_cons, th_nx, th_rt, th_bk, th_ct, List.getElem?_cons_zero, List.getElem?_cons_succ, List.map_cons, List.map_nil, List.cons_append, List.nil_append, List.replicate_succ, List.replicate_zero, if_true, if_false, Bool.false_eq_true, Bool.not_true, Bool.not_false, peek_int, peek_bool, peek_none, peek_str, peek_list, peek_tuple, peek_edict, peek_cel, settle_int, settle_bool, settle_none, settle_str, settle_list, settle_tuple, settle_edict, isTrueD_bool, biD, one, two, kindB, tyD, lenD, intOfD, iiD, sumD, listD, tupleD, binD, addD_int, subD, mulD_int, intD, cmpD, cmpI, isD, isNon, eqD_int, eqD_str, outD_rt, outD_rtt, outD_nx, bindT, List.set_cons_zero, List.set_cons_succ, wipeE, frE, celOf_int, celOf_bool, celOf_none, celOf_str, celOf_list, celOf_tuple, celOf_edict, celOf_cel, Option.isNone_none, Option.isNone_some, Bool.and_true, Bool.true_and, Bool.and_false, Bool.false_and, Bool.or_true, Bool.true_or, Bool.or_false, Bool.false_or, beginD_list, beginD_tuple, unlock_none, unlockO, idxD_list, idxD_tuple, setsE, decide_true, decide_false, List.take_nil, List.length_nil, List.length_cons, mtD, List.set_nil, List.getElem?_nil, Nat.zero_add, decide_eq_true_eq, sb_nil, sb_t, sb_f, sb_e, sa_nil, sa_cons, Nat.reduceSub, Nat.reduceLT, Nat.reduceAdd, Nat.reduceMul, Nat.reduceLeDiff, cnd_and, cnd_or, Option.bind_some, Option.map_some, Option.bind_none, Option.map_none, List.length_map, reduceCtorEq, beq_self_eq_true, eqD_nil, line, Nat.zero_le, ixD_0, ixD_1, ixD_2, ixD_last, Int.reduceEq, Int.reduceLT, Int.reduceLE, Int.reduceNeg, Int.reduceAdd, Int.reduceSub, Int.reduceMul, Nat.reduceEqDiff, Int.cast_ofNat_Int, List.getD_cons_zero, List.getD_cons_succ, re_t, hr, hr2, hlc, h1]
    rfl)
end K50
end
section
set_option Elab.async false
set_option linter.all false
set_option maxRecDepth 100000
set_option maxHeartbeats 4000000
namespace K50
open PySem TW
variable {W : Nat}
/-! ### _law_counted -/
theorem rch_get {n : Nat} {s x : Int} (t : Nat) (hx : inB n x = true) : ((rch n s t).map PyData.int)[x.toNat]? = some (.int (ways n t (decide (x = s)))) := by
  obtain ⟨x0, x1⟩ := inB_iff.mp hx
  unfold rch
  rw [List.getElem?_map, List.getElem?_map, List.getElem?_range (show x.toNat < n by omega)]
  simp only [Option.map_some]
  rw [show ((x.toNat : Nat) : Int) = x by omega]
theorem ways_comm (n t : Nat) (a b : Int) : ways n t (decide (a = b)) = ways n t (decide (b = a)) := by
  by_cases h : a = b
  · subst h; rfl
  · rw [decide_eq_false h, decide_eq_false fun q => h q.symm]
def lcEl : T := (.idx (.call i_law_reached [] (.cons (.var 3) (.cons (.var 9) (.cons (.bin .sub (.bin .sub (.var 1) (.var 2)) (.int 2)) .nil)))) (.var 5))
def lcB1 : T := (.cons (.asg (.var 7) (.bin .add (.var 7) (.bin .mul (.bin .mul (.int 2) (.idx (.var 6) (.var 9))) (.idx (.var 8) (.idx (.idx (.var 3) (.idx (.idx (.var 3) (.var 9)) (.var 10))) (.var 11)))))) .nil)
theorem ct_t : t_law_counted = (.cons (.asg (.tup (.cons (.var 3) (.cons (.var 4) (.cons (.var 5) .nil)))) (.var 0)) (.cons (.par [(6, false), (7, false)] (.cons (.call i_law_reached [] (.cons (.var 3) (.cons (.var 4) (.cons (.var 2) .nil)))) (.cons (.int 0) .nil))) (.cons (.asg (.var 8) (.lc [9] (.var 9) (.rng (.cons (.bi .len (.cons (.var 3) .nil)) .nil)) .nil lcEl)) (.cons (.forr (.tup (.cons (.var 9) (.cons (.var 10) (.cons (.var 11) .nil)))) (.cons (.call i_law_swaps [] (.cons (.var 3) .nil)) .nil) lcB1) (.cons (.ret (.var 7)) .nil))))) := rfl
section
variable {g : List (List Int)} {s e : Int} (G : Good g s e) (h12 : g.length ≤ 12) (k : Nat) (l p : Nat) (hp : p + 2 ≤ l) (hl : l ≤ 100)
include G h12 hp hl
theorem ct_in (t : Nat × Nat × Nat) (ht : t ∈ swL g) (f : Int) (S : Sto) :
    bodyF tb (evC tb W k) W 0 lcB1 [some (chD g s e), some (.int l), some (.int p), some (gD g), some (.int s), some (.int e), some (iL (rch g.length s p)), some (.int f), some (iL (rch g.length e (l - p - 2))), some (.int t.1), some (.int t.2.1), some (.int t.2.2)] S
      = some (.nx [some (chD g s e), some (.int l), some (.int p), some (gD g), some (.int s), some (.int e), some (iL (rch g.length s p)), some (.int (f + term g s e l p t)), some (iL (rch g.length e (l - p - 2))), some (.int t.1), some (.int t.2.1), some (.int t.2.2)] S) := by
  have L := G.toLat
  obtain ⟨h1, h2, h3⟩ := sw_in ht
  have i1 : inB g.length (t.1 : Int) = true := inB_iff.mpr ⟨by omega, by omega⟩
  have i2 : inB g.length (t.2.1 : Int) = true := inB_iff.mpr ⟨by omega, by omega⟩
  have i3 : inB g.length (t.2.2 : Int) = true := inB_iff.mpr ⟨by omega, by omega⟩
  have i4 := L.ent_in i1 i2
  have i5 := L.ent_in i4 i3
  have r1 := rch_get (s := s) p i1
  have r2 := rch_get (s := e) (l - p - 2) i5
  have m1 : mulOk 2 (ways g.length p (decide ((t.1 : Int) = s))) = true := mulOk_l rfl
  have m2 := mulOk_ways g.length p (l - p - 2) h12 (by omega) (by omega) (decide ((t.1 : Int) = s)) (decide (last3 g t = e))
  unfold last3 at m2
  unfold term last3
  simp -implicitDefEqProofs only [bodyF, lcB1, bnd_some, bnd_none, mpd_some, mpd_none, cnd_true, cnd_false, e_var, vl_int, vl_bool, vl_none, vl_str, vl_list, vl_tuple, vl_edict, vl_cel, vl_scr, e_int, e_str, e_bl, e_non, e_edict, e_bin, e_neg, e_cmp, e_chain, e_and, e_or, e_not, e_ite, e_tup, e_lst, e_call, e_callk, e_bi, e_mt, e_idx, e_sl, e_slr, e_lc, e_thaw, e_lrng, l_nil, l_cons, o_nil, o_cons, t_nil, t_cons, i_rng, i_cons, s_asg, s_asgm, s_asgi, s_par, s_ex, s_ret, s_retm, s_retn, s_iff, s_forr, s_whl, s_pas, s_brk, s_cnt, b_nil, b_cons, th_nx, th_rt, th_bk, th_ct, List.getElem?_cons_zero, List.getElem?_cons_succ, List.map_cons, List.map_nil, List.cons_append, List.nil_append, List.replicate_succ, List.replicate_zero, if_true, if_false, Bool.false_eq_true, Bool.not_true, Bool.not_false, peek_int, peek_bool, peek_none, peek_str, peek_list, peek_tuple, peek_edict, peek_cel, settle_int, settle_bool, settle_none, settle_str, settle_list, settle_tuple, settle_edict, isTrueD_bool, biD, one, two, kindB, tyD, lenD, intOfD, iiD, sumD, listD, tupleD, binD, addD_int, subD, mulD_int, intD, cmpD, cmpI, isD, isNon, eqD_int, eqD_str, outD_rt, outD_rtt, outD_nx, bindT, List.set_cons_zero, List.set_cons_succ, wipeE, frE, celOf_int, celOf_bool, celOf_none, celOf_str, celOf_list, celOf_tuple, celOf_edict, celOf_cel, Option.isNone_none, Option.isNone_some, Bool.and_true, Bool.true_and, Bool.and_false, Bool.false_and, Bool.or_true, Bool.true_or, Bool.or_false, Bool.false_or, beginD_list, beginD_tuple, unlock_none, unlockO, idxD_list, idxD_tuple, setsE, decide_true, decide_false, List.take_nil, List.length_nil, List.length_cons, mtD, List.set_nil, List.getElem?_nil, Nat.zero_add, decide_eq_true_eq, sb_nil, sb_t, sb_f, sb_e, sa_nil, sa_cons, Nat.reduceSub, Nat.reduceLT, Nat.reduceAdd, Nat.reduceMul, Nat.reduceLeDiff, cnd_and, cnd_or, Option.bind_some, Option.map_some, Option.bind_none, Option.map_none, List.length_map, reduceCtorEq, beq_self_eq_true, eqD_nil, line, Nat.zero_le, ixD_0, ixD_1, ixD_2, ixD_last, Int.reduceEq, Int.reduceLT, Int.reduceLE, Int.reduceNeg, Int.reduceAdd, Int.reduceSub, Int.reduceMul, Nat.reduceEqDiff, Int.cast_ofNat_Int, List.getD_cons_zero, List.getD_cons_succ, ixD_int i1, ixD_int i2, ixD_int i3, ixD_int i4, ixD_int i5, L.get1 i1, L.get1 i4, L.len1 i1, L.len1 i4, L.get2 i1 i2, L.get2 i4 i3, rch_len, r1, r2, m1, m2]
theorem cl_counted (S : Sto) : callD (evC tb W (k + 2)) i_law_counted [chD g s e, .int l, .int p] S = some (.int (sumI ((swL g).map (term g s e l p))), S) :=
  callD_plain rfl (by
    rw [evC_run (fn := f_law_counted) rfl rfl]
    obtain ⟨env', S', h1, w9, w10, w11, h2, h3⟩ := forLoop_ind (tg := .tup (.cons (.var 9) (.cons (.var 10) (.cons (.var 11) .nil)))) (g := triD) (body := bodyF tb (evC tb W (k + 1)) W 0 lcB1)
      (fun i env S => ∃ w9 w10 w11, env = [some (chD g s e), some (.int l), some (.int p), some (gD g), some (.int s), some (.int e), some (iL (rch g.length s p)), some (.int (sumI (((swL g).take i).map (term g s e l p)))), some (iL (rch g.length e (l - p - 2))), w9, w10, w11] ∧ S = []) (swL g)
      (env := [some (chD g s e), some (.int l), some (.int p), some (gD g), some (.int s), some (.int e), some (iL (rch g.length s p)), some (.int 0), some (iL (rch g.length e (l - p - 2))), none, none, none]) (S := []) ⟨none, none, none, rfl, rfl⟩ (by
        rintro i t env S ht ⟨w9, w10, w11, rfl, rfl⟩
        have hb := ct_in (W := W) G h12 (k + 1) l p hp hl t (List.mem_of_getElem? ht) (sumI (((swL g).take i).map (term g s e l p))) []
        rw [← sumI_snoc (term g s e l p) ht] at hb
        exact ⟨_, _, _, rfl, .inl hb, ⟨_, _, _, rfl, rfl⟩⟩)
    subst h2 h3
    rw [List.take_length] at h1
    have el : (l : Int) - p - 2 = ((l - p - 2 : Nat) : Int) := by omega
    have c1 := cl_reached (W := W) G.toLat h12 k G.s_in p (by omega) []
    have c2 := cl_law_swaps (W := W) G.toLat h12 k []
    have hlc := lcLoop_all (one := lcOne tb (evC tb W (k + 1)) [some (chD g s e), some (.int l), some (.int p), some (gD g), some (.int s), some (.int e), some (iL (rch g.length s p)), some (.int 0), none, none, none, none] [9] (.var 9) .nil lcEl) (f := fun (i : Nat) => PyData.int i) (g := fun (q : Nat) => PyData.int (ways g.length (l - p - 2) (decide ((q : Int) = e)))) (S := []) (List.range g.length) (fun q hq => by
      have hq := List.mem_range.mp hq
      have iq : inB g.length (q : Int) = true := inB_iff.mpr ⟨by omega, by omega⟩
      have c3 := cl_reached (W := W) G.toLat h12 k iq (l - p - 2) (by omega) []
      rw [← el] at c3
      have r1 := rch_get (s := (q : Int)) (l - p - 2) G.e_in
      rw [ways_comm] at r1
      simp -implicitDefEqProofs only [lcOne, lcEl, bnd_some, bnd_none, mpd_some, mpd_none, cnd_true, cnd_false, e_var, vl_int, vl_bool, vl_none, vl_str, vl_list, vl_tuple, vl_edict, vl_cel, vl_scr, e_int, e_str, e_bl, e_non, e_edict, e_bin, e_neg, e_cmp, e_chain, e_and, e_or, e_not, e_ite, e_tup, e_lst, e_call, e_callk, e_bi, e_mt, e_idx, e_sl, e_slr, e_lc, e_thaw, e_lrng, l_nil, l_cons, o_nil, o_cons, t_nil, t_cons, i_rng, i_cons, s_asg, s_asgm, s_asgi, s_par, s_ex, s_ret, s_retm, s_retn, s_iff, s_forr, s_whl, s_pas, s_brk, s_cnt, b_nil, b_cons, th_nx, th_rt, th_bk, th_ct, List.getElem?_cons_zero, List.getElem?_cons_succ, List.map_cons, List.map_nil, List.cons_append, List.nil_append, List.replicate_succ, List.replicate_zero, if_true, if_false, Bool.false_eq_true, Bool.not_true, Bool.not_false, peek_int, peek_bool, peek_none, peek_str, peek_list, peek_tuple, peek_edict, peek_cel, settle_int, settle_bool, settle_none, settle_str, settle_list, settle_tuple, settle_edict, isTrueD_bool, biD, one, two, kindB, tyD, lenD, intOfD, iiD, sumD, listD, tupleD, binD, addD_int, subD, mulD_int, intD, cmpD, cmpI, isD, isNon, eqD_int, eqD_str, outD_rt, outD_rtt, outD_nx, bindT, List.set_cons_zero, List.set_cons_succ, wipeE, frE, celOf_int, celOf_bool, celOf_none, celOf_str, celOf_list, celOf_tuple, celOf_edict, celOf_cel, Option.isNone_none, Option.isNone_some, Bool.and_true, Bool.true_and, Bool.and_false, Bool.false_and, Bool.or_true, Bool.true_or, Bool.or_false, Bool.false_or, beginD_list, beginD_tuple, unlock_none, unlockO, idxD_list, idxD_tuple, setsE, decide_true, decide_false, List.take_nil, List.length_nil, List.length_cons, mtD, List.set_nil, List.getElem?_nil, Nat.zero_add, decide_eq_true_eq, sb_nil, sb_t, sb_f, sb_e, sa_nil, sa_cons, Nat.reduceSub, Nat.reduceLT, Nat.reduceAdd, Nat.reduceMul, Nat.reduceLeDiff, cnd_and, cnd_or, Option.bind_some, Option.map_some, Option.bind_none, Option.map_none, List.length_map, reduceCtorEq, beq_self_eq_true, eqD_nil, line, Nat.zero_le, ixD_0, ixD_1, ixD_2, ixD_last, Int.reduceEq, Int.reduceLT, Int.reduceLE, Int.reduceNeg, Int.reduceAdd, Int.reduceSub, Int.reduceMul, Nat.reduceEqDiff, Int.cast_ofNat_Int, List.getD_cons_zero, List.getD_cons_succ, c3, rch_len, ixD_int G.e_in, r1]) (by rw [List.length_range]; exact le_line (by omega))
    have e0 : (List.range g.length).map (fun (q : Nat) => PyData.int (ways g.length (l - p - 2) (decide ((q : Int) = e)))) = (rch g.length e (l - p - 2)).map PyData.int := by
      unfold rch
      rw [List.map_map]; rfl
    rw [e0] at hlc
    have hr := rngD_one (show g.length < 2 ^ 62 by omega)
    simp -implicitDefEqProofs only [bnd_some, bnd_none, mpd_some, mpd_none, cnd_true, cnd_false, e_var, vl_int, vl_bool, vl_none, vl_str, vl_list, vl_tuple, vl_edict, vl_cel, vl_scr, e_int, e_str, e_bl, e_non, e_edict, e_bin, e_neg, e_cmp, e_chain, e_and, e_or, e_not, e_ite, e_tup, e_lst, e_call, e_callk, e_bi, e_mt, e_idx, e_sl, e_slr, e_lc, e_thaw, e_lrng, l_nil, l_cons, o_nil, o_cons, t_nil, t_cons, i_rng, i_cons, s_asg, s_asgm, s_asgi, s_par, s_ex, s_ret, s_retm, s_retn, s_iff, s_forr, s_whl, s_pas, s_brk, s_cnt, b_nil, b_cons, th_nx, th_rt, th_bk, th_ct, List.getElem?_cons_zero, List.getElem?_cons_succ, List.map_cons, List.map_nil, List.cons_append, List.nil_append, List.replicate_succ, List.replicate_zero, if_true, if_false, Bool.false_eq_true, Bool.not_true, Bool.not_false, peek_int, peek_bool, peek_none, peek_str, peek_list, peek_tuple, peek_edict, peek_cel, settle_int, settle_bool, settle_none, settle_str, settle_list, settle_tuple, settle_edict, isTrueD_bool, biD, one, two, kindB, tyD, lenD, intOfD, iiD, sumD, listD, tupleD, binD, addD_int, subD, mulD_int, intD, cmpD, cmpI, isD, isNon, eqD_int, eqD_str, outD_rt, outD_rtt, outD_nx, bindT, List.set_cons_zero, List.set_cons_succ, wipeE, frE, celOf_int, celOf_bool, celOf_none, celOf_str, celOf_list, celOf_tuple, celOf_edict, celOf_cel, Option.isNone_none, Option.isNone_some, Bool.and_true, Bool.true_and, Bool.and_false, Bool.false_and, Bool.or_true, Bool.true_or, Bool.or_false, Bool.false_or, beginD_list, beginD_tuple, unlock_none, unlockO, idxD_list, idxD_tuple, setsE, decide_true, decide_false, List.take_nil, List.length_nil, List.length_cons, mtD, List.set_nil, List.getElem?_nil, Nat.zero_add, decide_eq_true_eq, sb_nil, sb_t, sb_f, sb_e, sa_nil, sa_cons, Nat.reduceSub, Nat.reduceLT, Nat.reduceAdd, Nat.reduceMul, Nat.reduceLeDiff, cnd_and, cnd_or, Option.bind_some, Option.map_some, Option.bind_none, Option.map_none, List.length_map, reduceCtorEq, beq_self_eq_true, eqD_nil, line, Nat.zero_le, ixD_0, ixD_1, ixD_2, ixD_last, Int.reduceEq, Int.reduceLT, Int.reduceLE, Int.reduceNeg, Int.reduceAdd, Int.reduceSub, Int.reduceMul, Nat.reduceEqDiff, Int.cast_ofNat_Int, List.getD_cons_zero, List.getD_cons_succ, ct_t, hr, c1, hlc, c2, h1])
end
/-! ### _law_last, _law_slips -/
theorem cl_last {g : List (List Int)} (G : Lat g) (k : Nat) {s e : Int} (hs : inB g.length s = true) (code : List Int) (hin : code.all (inB g.length) = true) (hlen : code.length ≤ 1000) (S : Sto) :
    callD (evC tb W (k + 1)) i_law_last [chD g s e, iL code] S = some (.int (fin g s code), S) :=
  callD_plain rfl (by
    rw [evC_run (fn := f_law_last) rfl rfl]
    obtain ⟨env', S', h1, w, h2, h3⟩ := forLoop_ind (tg := .var 3) (g := PyData.int) (body := bodyF tb (evC tb W k) W 0 (.cons (.asg (.var 2) (.idx (.idx (.idx (.var 0) (.int 0)) (.var 2)) (.var 3))) .nil))
      (fun i env S => ∃ w, env = [some (chD g s e), some (iL code), some (.int (fin g s (code.take i))), w] ∧ S = []) code
      (env := [some (chD g s e), some (iL code), some (.int s), none]) (S := []) ⟨none, rfl, rfl⟩ (by
        rintro i x env S hx ⟨w, rfl, rfl⟩
        have hx2 : inB g.length x = true := by
          rw [List.all_eq_true] at hin
          exact hin x (List.mem_of_getElem? hx)
        have ht : (code.take i).all (inB g.length) = true := by
          rw [List.all_eq_true] at hin ⊢
          exact fun y hy => hin y (List.mem_of_mem_take hy)
        have hf := G.fin_in hs ht
        have htk : code.take (i + 1) = code.take i ++ [x] := by rw [List.take_add_one, hx]; rfl
        have ef : fin g s (code.take (i + 1)) = ent g (fin g s (code.take i)) x := by rw [htk, fin_snoc]
        refine ⟨[some (chD g s e), some (iL code), some (.int (fin g s (code.take i))), some (.int x)], _, [], ?_, .inl ?_, ⟨some (.int x), rfl, rfl⟩⟩
        · simp -implicitDefEqProofs only [bnd_some, bnd_none, mpd_some, mpd_none, cnd_true, cnd_false, e_var, vl_int, vl_bool, vl_none, vl_str, vl_list, vl_tuple, vl_edict, vl_cel, vl_scr, e_int, e_str, e_bl, e_non, e_edict, e_bin, e_neg, e_cmp, e_chain, e_and, e_or, e_not, e_ite, e_tup, e_lst, e_call, e_callk, e_bi, e_mt, e_idx, e_sl, e_slr, e_lc, e_thaw, e_lrng, l_nil, l_cons, o_nil, o_cons, t_nil, t_cons, i_rng, i_cons, s_asg, s_asgm, s_asgi, s_par, s_ex, s_ret, s_retm, s_retn, s_iff, s_forr, s_whl, s_pas, s_brk, s_cnt, b_nil, b_cons, th_nx, th_rt, th_bk, th_ct, List.getElem?_cons_zero, List.getElem?_cons_succ, List.map_cons, List.map_nil, List.cons_append, List.nil_append, List.replicate_succ, List.replicate_zero, if_true, if_false, Bool.false_eq_true, Bool.not_true, Bool.not_false, peek_int, peek_bool, peek_none, peek_str, peek_list, peek_tuple, peek_edict, peek_cel, settle_int, settle_bool, settle_none, settle_str, settle_list, settle_tuple, settle_edict, isTrueD_bool, biD, one, two, kindB, tyD, lenD, intOfD, iiD, sumD, listD, tupleD, binD, addD_int, subD, mulD_int, intD, cmpD, cmpI, isD, isNon, eqD_int, eqD_str, outD_rt, outD_rtt, outD_nx, bindT, List.set_cons_zero, List.set_cons_succ, wipeE, frE, celOf_int, celOf_bool, celOf_none, celOf_str, celOf_list, celOf_tuple, celOf_edict, celOf_cel, Option.isNone_none, Option.isNone_some, Bool.and_true, Bool.true_and, Bool.and_false, Bool.false_and, Bool.or_true, Bool.true_or, Bool.or_false, Bool.false_or, beginD_list, beginD_tuple, unlock_none, unlockO, idxD_list, idxD_tuple, setsE, decide_true, decide_false, List.take_nil, List.length_nil, List.length_cons, mtD, List.set_nil, List.getElem?_nil, Nat.zero_add, decide_eq_true_eq, sb_nil, sb_t, sb_f, sb_e, sa_nil, sa_cons, Nat.reduceSub, Nat.reduceLT, Nat.reduceAdd, Nat.reduceMul, Nat.reduceLeDiff, cnd_and, cnd_or, Option.bind_some, Option.map_some, Option.bind_none, Option.map_none, List.length_map, reduceCtorEq, beq_self_eq_true, eqD_nil, line, Nat.zero_le, ixD_0, ixD_1, ixD_2, ixD_last, Int.reduceEq, Int.reduceLT, Int.reduceLE, Int.reduceNeg, Int.reduceAdd, Int.reduceSub, Int.reduceMul, Nat.reduceEqDiff, Int.cast_ofNat_Int, List.getD_cons_zero, List.getD_cons_succ]
        · rw [ef]
          simp -implicitDefEqProofs only [bodyF, bnd_some, bnd_none, mpd_some, mpd_none, cnd_true, cnd_false, e_var, vl_int, vl_bool, vl_none, vl_str, vl_list, vl_tuple, vl_edict, vl_cel, vl_scr, e_int, e_str, e_bl, e_non, e_edict, e_bin, e_neg, e_cmp, e_chain, e_and, e_or, e_not, e_ite, e_tup, e_lst, e_call, e_callk, e_bi, e_mt, e_idx, e_sl, e_slr, e_lc, e_thaw, e_lrng, l_nil, l_cons, o_nil, o_cons, t_nil, t_cons, i_rng, i_cons, s_asg, s_asgm, s_asgi, s_par, s_ex, s_ret, s_retm, s_retn, s_iff, s_forr, s_whl, s_pas, s_brk, s_cnt, b_nil, b_cons, th_nx, th_rt, th_bk, th_ct, List.getElem?_cons_zero, List.getElem?_cons_succ, List.map_cons, List.map_nil, List.cons_append, List.nil_append, List.replicate_succ, List.replicate_zero, if_true, if_false, Bool.false_eq_true, Bool.not_true, Bool.not_false, peek_int, peek_bool, peek_none, peek_str, peek_list, peek_tuple, peek_edict, peek_cel, settle_int, settle_bool, settle_none, settle_str, settle_list, settle_tuple, settle_edict, isTrueD_bool, biD, one, two, kindB, tyD, lenD, intOfD, iiD, sumD, listD, tupleD, binD, addD_int, subD, mulD_int, intD, cmpD, cmpI, isD, isNon, eqD_int, eqD_str, outD_rt, outD_rtt, outD_nx, bindT, List.set_cons_zero, List.set_cons_succ, wipeE, frE, celOf_int, celOf_bool, celOf_none, celOf_str, celOf_list, celOf_tuple, celOf_edict, celOf_cel, Option.isNone_none, Option.isNone_some, Bool.and_true, Bool.true_and, Bool.and_false, Bool.false_and, Bool.or_true, Bool.true_or, Bool.or_false, Bool.false_or, beginD_list, beginD_tuple, unlock_none, unlockO, idxD_list, idxD_tuple, setsE, decide_true, decide_false, List.take_nil, List.length_nil, List.length_cons, mtD, List.set_nil, List.getElem?_nil, Nat.zero_add, decide_eq_true_eq, sb_nil, sb_t, sb_f, sb_e, sa_nil, sa_cons, Nat.reduceSub, Nat.reduceLT, Nat.reduceAdd, Nat.reduceMul, Nat.reduceLeDiff, cnd_and, cnd_or, Option.bind_some, Option.map_some, Option.bind_none, Option.map_none, List.length_map, reduceCtorEq, beq_self_eq_true, eqD_nil, line, Nat.zero_le, ixD_0, ixD_1, ixD_2, ixD_last, Int.reduceEq, Int.reduceLT, Int.reduceLE, Int.reduceNeg, Int.reduceAdd, Int.reduceSub, Int.reduceMul, Nat.reduceEqDiff, Int.cast_ofNat_Int, List.getD_cons_zero, List.getD_cons_succ, ixD_int hf, G.get1 hf, G.len1 hf, ixD_int hx2, G.get2 hf hx2])
    subst h2 h3
    rw [List.take_length] at h1
    simp -implicitDefEqProofs only [bnd_some, bnd_none, mpd_some, mpd_none, cnd_true, cnd_false, e_var, vl_int, vl_bool, vl_none, vl_str, vl_list, vl_tuple, vl_edict, vl_cel, vl_scr, e_int, e_str, e_bl, e_non, e_edict, e_bin, e_neg, e_cmp, e_chain, e_and, e_or, e_not, e_ite, e_tup, e_lst, e_call, e_callk, e_bi, e_mt, e_idx, e_sl, e_slr, e_lc, e_thaw, e_lrng, l_nil, l_cons, o_nil, o_cons, t_nil, t_cons, i_rng, i_cons, s_asg, s_asgm, s_asgi, s_par, s_ex, s_ret, s_retm, s_retn, s_iff, s_forr, s_whl, s_pas, s_brk, s_cnt, b_nil, b_cons, th_nx, th_rt, th_bk, th_ct, List.getElem?_cons_zero, List.getElem?_cons_succ, List.map_cons, List.map_nil, List.cons_append, List.nil_append, List.replicate_succ, List.replicate_zero, if_true, if_false, Bool.false_eq_true, Bool.not_true, Bool.not_false, peek_int, peek_bool, peek_none, peek_str, peek_list, peek_tuple, peek_edict, peek_cel, settle_int, settle_bool, settle_none, settle_str, settle_list, settle_tuple, settle_edict, isTrueD_bool, biD, one, two, kindB, tyD, lenD, intOfD, iiD, sumD, listD, tupleD, binD, addD_int, subD, mulD_int, intD, cmpD, cmpI, isD, isNon, eqD_int, eqD_str, outD_rt, outD_rtt, outD_nx, bindT, List.set_cons_zero, List.set_cons_succ, wipeE, frE, celOf_int, celOf_bool, celOf_none, celOf_str, celOf_list, celOf_tuple, celOf_edict, celOf_cel, Option.isNone_none, Option.isNone_some, Bool.and_true, Bool.true_and, Bool.and_false, Bool.false_and, Bool.or_true, Bool.true_or, Bool.or_false, Bool.false_or, beginD_list, beginD_tuple, unlock_none, unlockO, idxD_list, idxD_tuple, setsE, decide_true, decide_false, List.take_nil, List.length_nil, List.length_cons, mtD, List.set_nil, List.getElem?_nil, Nat.zero_add, decide_eq_true_eq, sb_nil, sb_t, sb_f, sb_e, sa_nil, sa_cons, Nat.reduceSub, Nat.reduceLT, Nat.reduceAdd, Nat.reduceMul, Nat.reduceLeDiff, cnd_and, cnd_or, Option.bind_some, Option.map_some, Option.bind_none, Option.map_none, List.length_map, reduceCtorEq, beq_self_eq_true, eqD_nil, line, Nat.zero_le, ixD_0, ixD_1, ixD_2, ixD_last, Int.reduceEq, Int.reduceLT, Int.reduceLE, Int.reduceNeg, Int.reduceAdd, Int.reduceSub, Int.reduceMul, Nat.reduceEqDiff, Int.cast_ofNat_Int, List.getD_cons_zero, List.getD_cons_succ, t_law_last, h1])
def slip (g : List (List Int)) (s e : Int) (p : Nat) (c : List Int) : Int := match c.drop p with
  | a :: b :: v => if decide (a ≠ b) && (decide (fin g s c = e) && decide (fin g s (c.take p ++ [b, a] ++ v) = e)) then 1 else 0
  | _ => 0
theorem slip_app (g : List (List Int)) (s e : Int) (u : List Int) (a b : Int) (v : List Int) : slip g s e u.length (u ++ a :: b :: v) = if decide (a ≠ b) && (decide (fin g s (u ++ a :: b :: v) = e) && decide (fin g s (u ++ [b, a] ++ v) = e)) then 1 else 0 := by
  unfold slip
  rw [List.drop_left' rfl, List.take_left' rfl]
def sl1 : T := (.cons (.par [(5, false), (6, false)] (.cons (.idx (.var 4) (.var 2)) (.cons (.idx (.var 4) (.bin .add (.var 2) (.int 1))) .nil))) (.cons (.iff (.and (.cmp .ne (.var 5) (.var 6)) (.cmp .eq (.call i_law_last [] (.cons (.var 0) (.cons (.var 4) .nil))) (.idx (.var 0) (.int 2)))) (.cons (.asg (.var 3) (.bin .add (.var 3) (.bi .int (.cons (.cmp .eq (.call i_law_last [] (.cons (.var 0) (.cons (.bin .add (.bin .add (.sl (.var 4) .nil (.cons (.var 2) .nil)) (.lst (.cons (.var 6) (.cons (.var 5) .nil)))) (.sl (.var 4) (.cons (.bin .add (.var 2) (.int 2)) .nil) .nil)) .nil))) (.idx (.var 0) (.int 2))) .nil)))) .nil) .nil) .nil))
theorem sl_t : t_law_slips = (.cons (.asg (.var 3) (.int 0)) (.cons (.forr (.var 4) (.cons (.call i_law_all_codes [] (.cons (.bi .len (.cons (.idx (.var 0) (.int 0)) .nil)) (.cons (.var 1) .nil))) .nil) sl1) (.cons (.ret (.var 3)) .nil))) := rfl
theorem addI (p q : List Int) (h : p.length + q.length ≤ 2000) : addD (iL p) (iL q) = some (iL (p ++ q)) := by
  have := addD_ok (xs := p.map .int) (ys := q.map .int) (le_line (by simp; omega))
  rw [this, iL, List.map_append]
theorem sl_in {g : List (List Int)} {s e : Int} (G : Good g s e) (k : Nat) (l : Nat) (u v : List Int) (a b : Int) (hu : u.all (inB g.length) = true) (hv : v.all (inB g.length) = true) (ha : inB g.length a = true) (hb : inB g.length b = true) (hlen : (u ++ a :: b :: v).length ≤ 900) (f : Int) (S : Sto) (v5 v6 : Option PyData) :
    bodyF tb (evC tb W (k + 1)) W 0 sl1 [some (chD g s e), some (.int l), some (.int u.length), some (.int f), some (iL (u ++ a :: b :: v)), v5, v6] S
      = some (.nx [some (chD g s e), some (.int l), some (.int u.length), some (.int (f + slip g s e u.length (u ++ a :: b :: v))), some (iL (u ++ a :: b :: v)), some (.int a), some (.int b)] S) := by
  have L := G.toLat
  have hl : u.length + v.length + 2 ≤ 900 := by simp at hlen; omega
  have x1 : ixD (u ++ a :: b :: v).length (u.length : Int) = some u.length := ixD_in (by simp)
  have x2 : ixD (u ++ a :: b :: v).length ((u.length : Int) + 1) = some (u.length + 1) := ixD_in (i := u.length + 1) (by simp)
  have g1 : ((u ++ a :: b :: v).map PyData.int)[u.length]? = some (.int a) := by rw [List.getElem?_map, List.getElem?_append_right (Nat.le_refl _), Nat.sub_self]; rfl
  have g2 : ((u ++ a :: b :: v).map PyData.int)[u.length + 1]? = some (.int b) := by rw [List.getElem?_map, List.getElem?_append_right (by omega), show u.length + 1 - u.length = 1 by omega]; rfl
  have c1 := cl_last (W := W) L k (e := e) G.s_in (u ++ a :: b :: v) (by rw [List.all_append, List.all_cons, List.all_cons, hu, hv, ha, hb]; rfl) (by omega) S
  have c2 := cl_last (W := W) L k (e := e) G.s_in (u ++ [b, a] ++ v) (by rw [List.all_append, List.all_append, hu, hv]; simp [ha, hb]) (by simp; omega) S
  have s1 : slD (iL (u ++ a :: b :: v)) none (some (.int u.length)) = some (iL u) := by
    have := sl_upto (u ++ a :: b :: v) u.length (by simp)
    rw [List.take_left' rfl] at this
    exact this
  have s2 : slD (iL (u ++ a :: b :: v)) (some (.int ((u.length : Int) + 2))) none = some (iL v) := by
    have := sl_from ((u ++ a :: b :: v).map .int) (u.length + 2) (by simp)
    rw [← List.map_drop, show u ++ a :: b :: v = (u ++ [a, b]) ++ v by simp, List.drop_left' (by simp)] at this
    rw [show u ++ a :: b :: v = (u ++ [a, b]) ++ v by simp]
    exact this
  have a1 : addD (iL u) (.list [.int b, .int a]) = some (iL (u ++ [b, a])) := addI u [b, a] (by simp; omega)
  have a2 := addI (u ++ [b, a]) v (by simp; omega)
  rw [slip_app]
  cases h1 : decide (a = b) with
  | true =>
    have h1' : decide (a ≠ b) = false := decide_eq_false fun q => q (of_decide_eq_true h1)
    rw [h1']
    simp -implicitDefEqProofs only [bodyF, sl1, bnd_some, bnd_none, mpd_some, mpd_none, cnd_true, cnd_false, e_var, vl_int, vl_bool, vl_none, vl_str, vl_list, vl_tuple, vl_edict, vl_cel, vl_scr, e_int, e_str, e_bl, e_non, e_edict, e_bin, e_neg, e_cmp, e_chain, e_and, e_or, e_not, e_ite, e_tup, e_lst, e_call, e_callk, e_bi, e_mt, e_idx, e_sl, e_slr, e_lc, e_thaw, e_lrng, l_nil, l_cons, o_nil, o_cons, t_nil, t_cons, i_rng, i_cons, s_asg, s_asgm, s_asgi, s_par, s_ex, s_ret, s_retm, s_retn, s_iff, s_forr, s_whl, s_pas, s_brk, s_cnt, b_nil, b_cons, th_nx, th_rt, th_bk, th_ct, List.getElem?_cons_zero, List.getElem?_cons_succ, List.map_cons, List.map_nil, List.cons_append, List.nil_append, List.replicate_succ, List.replicate_zero, if_true, if_false, Bool.false_eq_true, Bool.not_true, Bool.not_false, peek_int, peek_bool, peek_none, peek_str, peek_list, peek_tuple, peek_edict, peek_cel, settle_int, settle_bool, settle_none, settle_str, settle_list, settle_tuple, settle_edict, isTrueD_bool, biD, one, two, kindB, tyD, lenD, intOfD, iiD, sumD, listD, tupleD, binD, addD_int, subD, mulD_int, intD, cmpD, cmpI, isD, isNon, eqD_int, eqD_str, outD_rt, outD_rtt, outD_nx, bindT, List.set_cons_zero, List.set_cons_succ, wipeE, frE, celOf_int, celOf_bool, celOf_none, celOf_str, celOf_list, celOf_tuple, celOf_edict, celOf_cel, Option.isNone_none, Option.isNone_some, Bool.and_true, Bool.true_and, Bool.and_false, Bool.false_and, Bool.or_true, Bool.true_or, Bool.or_false, Bool.false_or, beginD_list, beginD_tuple, unlock_none, unlockO, idxD_list, idxD_tuple, setsE, decide_true, decide_false, List.take_nil, List.length_nil, List.length_cons, mtD, List.set_nil, List.getElem?_nil, Nat.zero_add, decide_eq_true_eq, sb_nil, sb_t, sb_f, sb_e, sa_nil, sa_cons, Nat.reduceSub, Nat.reduceLT, Nat.reduceAdd, Nat.reduceMul, Nat.reduceLeDiff, cnd_and, cnd_or, Option.bind_some, Option.map_some, Option.bind_none, Option.map_none, List.length_map, reduceCtorEq, beq_self_eq_true, eqD_nil, line, Nat.zero_le, ixD_0, ixD_1, ixD_2, ixD_last, Int.reduceEq, Int.reduceLT, Int.reduceLE, Int.reduceNeg, Int.reduceAdd, Int.reduceSub, Int.reduceMul, Nat.reduceEqDiff, Int.cast_ofNat_Int, List.getD_cons_zero, List.getD_cons_succ, x1, x2, g1, g2, h1, c1, Int.add_zero]
  | false =>
    have h1' : decide (a ≠ b) = true := decide_eq_true (of_decide_eq_false h1)
    rw [h1']
    cases h2 : decide (fin g s (u ++ a :: b :: v) = e) with
    | false =>
      simp -implicitDefEqProofs only [bodyF, sl1, bnd_some, bnd_none, mpd_some, mpd_none, cnd_true, cnd_false, e_var, vl_int, vl_bool, vl_none, vl_str, vl_list, vl_tuple, vl_edict, vl_cel, vl_scr, e_int, e_str, e_bl, e_non, e_edict, e_bin, e_neg, e_cmp, e_chain, e_and, e_or, e_not, e_ite, e_tup, e_lst, e_call, e_callk, e_bi, e_mt, e_idx, e_sl, e_slr, e_lc, e_thaw, e_lrng, l_nil, l_cons, o_nil, o_cons, t_nil, t_cons, i_rng, i_cons, s_asg, s_asgm, s_asgi, s_par, s_ex, s_ret, s_retm, s_retn, s_iff, s_forr, s_whl, s_pas, s_brk, s_cnt, b_nil, b_cons, th_nx, th_rt, th_bk, th_ct, List.getElem?_cons_zero, List.getElem?_cons_succ, List.map_cons, List.map_nil, List.cons_append, List.nil_append, List.replicate_succ, List.replicate_zero, if_true, if_false, Bool.false_eq_true, Bool.not_true, Bool.not_false, peek_int, peek_bool, peek_none, peek_str, peek_list, peek_tuple, peek_edict, peek_cel, settle_int, settle_bool, settle_none, settle_str, settle_list, settle_tuple, settle_edict, isTrueD_bool, biD, one, two, kindB, tyD, lenD, intOfD, iiD, sumD, listD, tupleD, binD, addD_int, subD, mulD_int, intD, cmpD, cmpI, isD, isNon, eqD_int, eqD_str, outD_rt, outD_rtt, outD_nx, bindT, List.set_cons_zero, List.set_cons_succ, wipeE, frE, celOf_int, celOf_bool, celOf_none, celOf_str, celOf_list, celOf_tuple, celOf_edict, celOf_cel, Option.isNone_none, Option.isNone_some, Bool.and_true, Bool.true_and, Bool.and_false, Bool.false_and, Bool.or_true, Bool.true_or, Bool.or_false, Bool.false_or, beginD_list, beginD_tuple, unlock_none, unlockO, idxD_list, idxD_tuple, setsE, decide_true, decide_false, List.take_nil, List.length_nil, List.length_cons, mtD, List.set_nil, List.getElem?_nil, Nat.zero_add, decide_eq_true_eq, sb_nil, sb_t, sb_f, sb_e, sa_nil, sa_cons, Nat.reduceSub, Nat.reduceLT, Nat.reduceAdd, Nat.reduceMul, Nat.reduceLeDiff, cnd_and, cnd_or, Option.bind_some, Option.map_some, Option.bind_none, Option.map_none, List.length_map, reduceCtorEq, beq_self_eq_true, eqD_nil, line, Nat.zero_le, ixD_0, ixD_1, ixD_2, ixD_last, Int.reduceEq, Int.reduceLT, Int.reduceLE, Int.reduceNeg, Int.reduceAdd, Int.reduceSub, Int.reduceMul, Nat.reduceEqDiff, Int.cast_ofNat_Int, List.getD_cons_zero, List.getD_cons_succ, x1, x2, g1, g2, h1, c1, h2, Int.add_zero]
    | true =>
      cases h3 : decide (fin g s (u ++ [b, a] ++ v) = e) <;> simp -implicitDefEqProofs only [bodyF, sl1, bnd_some, bnd_none, mpd_some, mpd_none, cnd_true, cnd_false, e_var, vl_int, vl_bool, vl_none, vl_str, vl_list, vl_tuple, vl_edict, vl_cel, vl_scr, e_int, e_str, e_bl, e_non, e_edict, e_bin, e_neg, e_cmp, e_chain, e_and, e_or, e_not, e_ite, e_tup, e_lst, e_call, e_callk, e_bi, e_mt, e_idx, e_sl, e_slr, e_lc, e_thaw, e_lrng, l_nil, l_cons, o_nil, o_cons, t_nil, t_cons, i_rng, i_cons, s_asg, s_asgm, s_asgi, s_par, s_ex, s_ret, s_retm, s_retn, s_iff, s_forr, s_whl, s_pas, s_brk, s_cnt, b_nil, b_cons, th_nx, th_rt, th_bk, th_ct, List.getElem?_cons_zero, List.getElem?_cons_succ, List.map_cons, List.map_nil, List.cons_append, List.nil_append, List.replicate_succ, List.replicate_zero, if_true, if_false, Bool.false_eq_true, Bool.not_true, Bool.not_false, peek_int, peek_bool, peek_none, peek_str, peek_list, peek_tuple, peek_edict, peek_cel, settle_int, settle_bool, settle_none, settle_str, settle_list, settle_tuple, settle_edict, isTrueD_bool, biD, one, two, kindB, tyD, lenD, intOfD, iiD, sumD, listD, tupleD, binD, addD_int, subD, mulD_int, intD, cmpD, cmpI, isD, isNon, eqD_int, eqD_str, outD_rt, outD_rtt, outD_nx, bindT, List.set_cons_zero, List.set_cons_succ, wipeE, frE, celOf_int, celOf_bool, celOf_none, celOf_str, celOf_list, celOf_tuple, celOf_edict, celOf_cel, Option.isNone_none, Option.isNone_some, Bool.and_true, Bool.true_and, Bool.and_false, Bool.false_and, Bool.or_true, Bool.true_or, Bool.or_false, Bool.false_or, beginD_list, beginD_tuple, unlock_none, unlockO, idxD_list, idxD_tuple, setsE, decide_true, decide_false, List.take_nil, List.length_nil, List.length_cons, mtD, List.set_nil, List.getElem?_nil, Nat.zero_add, decide_eq_true_eq, sb_nil, sb_t, sb_f, sb_e, sa_nil, sa_cons, Nat.reduceSub, Nat.reduceLT, Nat.reduceAdd, Nat.reduceMul, Nat.reduceLeDiff, cnd_and, cnd_or, Option.bind_some, Option.map_some, Option.bind_none, Option.map_none, List.length_map, reduceCtorEq, beq_self_eq_true, eqD_nil, line, Nat.zero_le, ixD_0, ixD_1, ixD_2, ixD_last, Int.reduceEq, Int.reduceLT, Int.reduceLE, Int.reduceNeg, Int.reduceAdd, Int.reduceSub, Int.reduceMul, Nat.reduceEqDiff, Int.cast_ofNat_Int, List.getD_cons_zero, List.getD_cons_succ, x1, x2, g1, g2, h1, c1, h2, s1, s2, a1, a2, c2, h3]
theorem cl_slips {g : List (List Int)} {s e : Int} (G : Good g s e) (h12 : g.length ≤ 12) (k : Nat) (l p : Nat) (hp : p + 2 ≤ l) (hl : l ≤ 4) (S : Sto) :
    callD (evC tb W (k + 2)) i_law_slips [chD g s e, .int l, .int p] S = some (.int (sumI ((allC g.length l).map (slip g s e p))), S) :=
  callD_plain rfl (by
    rw [evC_run (fn := f_law_slips) rfl rfl]
    obtain ⟨env', S', h1, w4, w5, w6, h2, h3⟩ := forLoop_ind (tg := .var 4) (g := fun c => iL c) (body := bodyF tb (evC tb W (k + 1)) W 0 sl1)
      (fun i env S => ∃ w4 w5 w6, env = [some (chD g s e), some (.int l), some (.int p), some (.int (sumI (((allC g.length l).take i).map (slip g s e p)))), w4, w5, w6] ∧ S = []) (allC g.length l)
      (env := [some (chD g s e), some (.int l), some (.int p), some (.int 0), none, none, none]) (S := []) ⟨none, none, none, rfl, rfl⟩ (by
        rintro i c env S hc ⟨w4, w5, w6, rfl, rfl⟩
        obtain ⟨q1, q2⟩ := allC_in _ _ c (List.mem_of_getElem? hc)
        obtain ⟨u, a, b, v, rfl, hul⟩ : ∃ u a b v, c = u ++ a :: b :: v ∧ u.length = p :=
          ⟨c.take p, c[p], c[p + 1], c.drop (p + 2), by rw [← List.drop_eq_getElem_cons (by omega), ← List.drop_eq_getElem_cons (by omega), List.take_append_drop], by rw [List.length_take]; omega⟩
        rw [List.all_append, List.all_cons, List.all_cons, Bool.and_eq_true, Bool.and_eq_true, Bool.and_eq_true] at q2
        have hb := sl_in (W := W) G k l u v a b q2.1 q2.2.2.2 q2.2.1 q2.2.2.1 (by omega) (sumI (((allC g.length l).take i).map (slip g s e p))) [] w5 w6
        rw [hul, ← sumI_snoc (slip g s e p) hc] at hb
        exact ⟨_, _, _, rfl, .inl hb, ⟨_, _, _, rfl, rfl⟩⟩)
    subst h2 h3
    rw [List.take_length] at h1
    have c1 := cl_all_codes (W := W) k g.length l h12 hl []
    simp -implicitDefEqProofs only [bnd_some, bnd_none, mpd_some, mpd_none, cnd_true, cnd_false, e_var, vl_int, vl_bool, vl_none, vl_str, vl_list, vl_tuple, vl_edict, vl_cel, vl_scr, e_int, e_str, e_bl, e_non, e_edict, e_bin, e_neg, e_cmp, e_chain, e_and, e_or, e_not, e_ite, e_tup, e_lst, e_call, e_callk, e_bi, e_mt, e_idx, e_sl, e_slr, e_lc, e_thaw, e_lrng, l_nil, l_cons, o_nil, o_cons, t_nil, t_cons, i_rng, i_cons, s_asg, s_asgm, s_asgi, s_par, s_ex, s_ret, s_retm, s_retn, s_iff, s_forr, s_whl, s_pas, s_brk, s_cnt, b_nil, b_cons, th_nx, th_rt, th_bk, th_ct, List.getElem?_cons_zero, List.getElem?_cons_succ, List.map_cons, List.map_nil, List.cons_append, List.nil_append, List.replicate_succ, List.replicate_zero, if_true, if_false, Bool.false_eq_true, Bool.not_true, Bool.not_false, peek_int, peek_bool, peek_none, peek_str, peek_list, peek_tuple, peek_edict, peek_cel, settle_int, settle_bool, settle_none, settle_str, settle_list, settle_tuple, settle_edict, isTrueD_bool, biD, one, two, kindB, tyD, lenD, intOfD, iiD, sumD, listD, tupleD, binD, addD_int, subD, mulD_int, intD, cmpD, cmpI, isD, isNon, eqD_int, eqD_str, outD_rt, outD_rtt, outD_nx, bindT, List.set_cons_zero, List.set_cons_succ, wipeE, frE, celOf_int, celOf_bool, celOf_none, celOf_str, celOf_list, celOf_tuple, celOf_edict, celOf_cel, Option.isNone_none, Option.isNone_some, Bool.and_true, Bool.true_and, Bool.and_false, Bool.false_and, Bool.or_true, Bool.true_or, Bool.or_false, Bool.false_or, beginD_list, beginD_tuple, unlock_none, unlockO, idxD_list, idxD_tuple, setsE, decide_true, decide_false, List.take_nil, List.length_nil, List.length_cons, mtD, List.set_nil, List.getElem?_nil, Nat.zero_add, decide_eq_true_eq, sb_nil, sb_t, sb_f, sb_e, sa_nil, sa_cons, Nat.reduceSub, Nat.reduceLT, Nat.reduceAdd, Nat.reduceMul, Nat.reduceLeDiff, cnd_and, cnd_or, Option.bind_some, Option.map_some, Option.bind_none, Option.map_none, List.length_map, reduceCtorEq, beq_self_eq_true, eqD_nil, line, Nat.zero_le, ixD_0, ixD_1, ixD_2, ixD_last, Int.reduceEq, Int.reduceLT, Int.reduceLE, Int.reduceNeg, Int.reduceAdd, Int.reduceSub, Int.reduceMul, Nat.reduceEqDiff, Int.cast_ofNat_Int, List.getD_cons_zero, List.getD_cons_succ, sl_t, c1, h1])
end K50
end
section
set_option Elab.async false
set_option linter.all false
set_option maxRecDepth 100000
set_option maxHeartbeats 4000000
namespace K50
open PySem TW
/-! ### the count of slips, in plain sums -/
theorem sum_congr {α : Type} {f h : α → Int} : ∀ {l : List α}, (∀ a ∈ l, f a = h a) → sumI (l.map f) = sumI (l.map h)
  | [], _ => rfl
  | a :: l, q => by
    show f a + sumI (l.map f) = h a + sumI (l.map h)
    rw [q a (List.mem_cons_self ..), sum_congr fun b hb => q b (List.mem_cons_of_mem _ hb)]
theorem sum_zero {α : Type} : ∀ l : List α, sumI (l.map fun _ => (0 : Int)) = 0
  | [] => rfl
  | a :: l => by
    show 0 + sumI (l.map fun _ => (0 : Int)) = 0
    rw [sum_zero l]; rfl
theorem sum_add {α : Type} (f h : α → Int) : ∀ l : List α, sumI (l.map fun a => f a + h a) = sumI (l.map f) + sumI (l.map h)
  | [] => rfl
  | a :: l => by
    show f a + h a + sumI (l.map fun a => f a + h a) = f a + sumI (l.map f) + (h a + sumI (l.map h))
    rw [sum_add f h l]; omega
theorem sum_mul {α : Type} (c : Int) (f : α → Int) : ∀ l : List α, sumI (l.map fun a => c * f a) = c * sumI (l.map f)
  | [] => by show (0 : Int) = c * 0; omega
  | a :: l => by
    show c * f a + sumI (l.map fun a => c * f a) = c * (f a + sumI (l.map f))
    rw [sum_mul c f l, Int.mul_add]
theorem sum_flat {α β : Type} (f : β → Int) (h : α → List β) : ∀ l : List α, sumI ((l.flatMap h).map f) = sumI (l.map fun a => sumI ((h a).map f))
  | [] => rfl
  | a :: l => by
    rw [List.flatMap_cons, List.map_append, sumI_app, sum_flat f h l]; rfl
theorem sum_comm {α β : Type} (f : α → β → Int) (m : List β) : ∀ l : List α, sumI (l.map fun a => sumI (m.map fun b => f a b)) = sumI (m.map fun b => sumI (l.map fun a => f a b))
  | [] => by
    show (0 : Int) = sumI (m.map fun b => 0)
    rw [sum_zero]
  | a :: l => by
    show sumI (m.map fun b => f a b) + sumI (l.map fun a => sumI (m.map fun b => f a b)) = sumI (m.map fun b => f a b + sumI (l.map fun a => f a b))
    rw [sum_comm f m l, sum_add]
theorem sum_filter {α : Type} (p : α → Bool) (f : α → Int) : ∀ l : List α, sumI ((l.filter p).map f) = sumI (l.map fun a => if p a then f a else 0)
  | [] => rfl
  | a :: l => by
    show _ = (if p a then f a else 0) + sumI (l.map fun a => if p a then f a else 0)
    rw [← sum_filter p f l]
    cases h : p a with
    | true => rw [List.filter_cons_of_pos h]; rfl
    | false => rw [List.filter_cons_of_neg (by rw [h]; decide)]; simp
theorem sum_count {α : Type} (p : α → Bool) : ∀ l : List α, sumI (l.map fun a => if p a then (1 : Int) else 0) = ((l.filter p).length : Int)
  | [] => rfl
  | a :: l => by
    show (if p a then (1 : Int) else 0) + sumI (l.map fun a => if p a then (1 : Int) else 0) = _
    rw [sum_count p l]
    cases h : p a with
    | true => rw [List.filter_cons_of_pos h, List.length_cons]; simp; omega
    | false => rw [List.filter_cons_of_neg (by rw [h]; decide)]; simp
theorem sum_perm {l m : List Int} (h : l.Perm m) : sumI l = sumI m := by
  induction h with
  | nil => rfl
  | cons x _ ih => show x + _ = x + _; rw [ih]
  | swap x y l => show y + (x + sumI l) = x + (y + sumI l); omega
  | trans _ _ h1 h2 => exact h1.trans h2
/-- codes put together -/
theorem sum_codes (n p : Nat) : ∀ (q : Nat) (f : List Int → Int), sumI ((allC n (p + q)).map f) = sumI ((allC n p).map fun u => sumI ((allC n q).map fun v => f (u ++ v)))
  | 0, f => by
    show sumI ((allC n p).map f) = sumI ((allC n p).map fun u => sumI [f (u ++ [])])
    refine sum_congr fun u _ => ?_
    show f u = f (u ++ []) + 0
    rw [List.append_nil, Int.add_zero]
  | q + 1, f => by
    show sumI (((allC n (p + q)).flatMap (ext n)).map f) = _
    rw [sum_flat, sum_codes n p q]
    refine sum_congr fun u _ => ?_
    show _ = sumI (((allC n q).flatMap (ext n)).map fun v => f (u ++ v))
    rw [sum_flat]
    refine sum_congr fun v _ => ?_
    unfold ext
    rw [List.map_map, List.map_map]
    refine sum_congr fun x _ => ?_
    show f (u ++ v ++ [(x : Int)]) = f (u ++ (v ++ [(x : Int)]))
    rw [List.append_assoc]
def rgS (n : Nat) (f : Int → Int) : Int := sumI ((List.range n).map fun (x : Nat) => f x)
theorem sum_c1 (n : Nat) (f : List Int → Int) : sumI ((allC n 1).map f) = rgS n fun x => f [x] := by
  show sumI (([[]].flatMap (ext n)).map f) = _
  rw [sum_flat]
  show sumI ((ext n []).map f) + 0 = _
  unfold ext rgS
  rw [Int.add_zero, List.map_map]
  rfl
theorem sum_c2 (n : Nat) (f : List Int → Int) : sumI ((allC n 2).map f) = rgS n fun a => rgS n fun b => f [a, b] := by
  rw [sum_codes n 1 1 f, sum_c1]
  unfold rgS
  refine sum_congr fun a _ => ?_
  dsimp only
  rw [sum_c1]
  rfl
theorem rgS_congr {n : Nat} {f h : Int → Int} (q : ∀ x, inB n x = true → f x = h x) : rgS n f = rgS n h := sum_congr fun x hx => q x (inB_iff.mpr ⟨by omega, by have := List.mem_range.mp hx; omega⟩)
section
variable {g : List (List Int)} (G : Lat g)
include G
/-- a row goes once through all -/
theorem sum_row (h : Int → Int) {t : Int} (ht : inB g.length t = true) : rgS g.length (fun x => h (ent g t x)) = rgS g.length h := by
  have e1 : rgS g.length (fun x => h (ent g t x)) = sumI (((List.range g.length).map fun (x : Nat) => ent g t x).map h) := by
    unfold rgS; rw [List.map_map]; rfl
  have e2 : rgS g.length h = sumI (((List.range g.length).map fun (x : Nat) => (x : Int)).map h) := by
    unfold rgS; rw [List.map_map]; rfl
  rw [e1, e2]
  refine sum_perm (List.Perm.map _ ?_)
  have nd1 : ((List.range g.length).map fun (x : Nat) => ent g t x).Nodup := by
    unfold List.Nodup
    rw [List.pairwise_map]
    refine List.Pairwise.imp_of_mem (fun {a b} ha hb hne => ?_) (List.nodup_range (n := g.length))
    have ha := List.mem_range.mp ha
    have hb := List.mem_range.mp hb
    intro q
    have := G.rinj ht (inB_iff.mpr ⟨by omega, by omega⟩ : inB g.length (a : Int) = true) (inB_iff.mpr ⟨by omega, by omega⟩ : inB g.length (b : Int) = true) q
    exact hne (by omega)
  have nd2 : ((List.range g.length).map fun (x : Nat) => (x : Int)).Nodup := by
    unfold List.Nodup
    rw [List.pairwise_map]
    exact List.Pairwise.imp (fun h => by omega) (List.nodup_range (n := g.length))
  refine (List.perm_ext_iff_of_nodup nd1 nd2).mpr fun y => ⟨fun h => ?_, fun h => ?_⟩
  · obtain ⟨x, hx, rfl⟩ := List.mem_map.mp h
    have hx := List.mem_range.mp hx
    have hi := G.ent_in ht (inB_iff.mpr ⟨by omega, by omega⟩ : inB g.length (x : Int) = true)
    obtain ⟨i0, i1⟩ := inB_iff.mp hi
    exact List.mem_map.mpr ⟨(ent g t x).toNat, List.mem_range.mpr (by omega), by omega⟩
  · obtain ⟨x, hx, rfl⟩ := List.mem_map.mp h
    have hx := List.mem_range.mp hx
    refine all_met (n := g.length) nd1 (by simp) ?_ (inB_iff.mpr ⟨by omega, by omega⟩)
    rw [List.all_eq_true]
    intro z hz
    obtain ⟨w, hw, rfl⟩ := List.mem_map.mp hz
    have hw := List.mem_range.mp hw
    exact G.ent_in ht (inB_iff.mpr ⟨by omega, by omega⟩)
/-- where the codes of a length lead -/
theorem sum_fin (h : Int → Int) {s : Int} (hs : inB g.length s = true) (p : Nat) : sumI ((allC g.length p).map fun u => h (fin g s u)) = rgS g.length fun t => ways g.length p (decide (t = s)) * h t := by
  cases p with
  | zero =>
    show h s + 0 = _
    have : rgS g.length (fun t => ways g.length 0 (decide (t = s)) * h t) = h s * rgS g.length (fun t => if decide (t = s) then 1 else 0) := by
      unfold rgS
      rw [← sum_mul]
      refine sum_congr fun x _ => ?_
      unfold ways
      by_cases e : (x : Int) = s
      · rw [e]; simp
      · simp [e]
    rw [this]
    have := sum_one g.length s
    rw [hs, if_pos rfl] at this
    unfold rgS
    rw [this]; omega
  | succ p =>
    rw [sum_codes g.length p 1]
    have : ∀ u ∈ allC g.length p, sumI ((allC g.length 1).map fun v => h (fin g s (u ++ v))) = rgS g.length h := fun u hu => by
      rw [sum_c1]
      rw [← sum_row G h (G.fin_in hs (allC_in _ _ u hu).2)]
      unfold rgS
      refine sum_congr fun x _ => ?_
      dsimp only
      rw [fin_snoc]
    rw [sum_congr this]
    have e1 : sumI ((allC g.length p).map fun _ => rgS g.length h) = ((allC g.length p).length : Int) * rgS g.length h := by
      generalize allC g.length p = l
      induction l with
      | nil => simp [sumI]
      | cons a l ih =>
        show rgS g.length h + sumI (l.map fun _ => rgS g.length h) = _
        rw [ih, List.length_cons, show ((l.length + 1 : Nat) : Int) = (l.length : Int) + 1 by omega, Int.add_mul]; omega
    rw [e1, allC_len]
    unfold rgS
    rw [← sum_mul]
    refine sum_congr fun x _ => ?_
    unfold ways
    simp [Int.natCast_pow]
theorem sum_back {t e : Int} (ht : inB g.length t = true) (he : inB g.length e = true) (q : Nat) : sumI ((allC g.length q).map fun v => if decide (fin g t v = e) then (1 : Int) else 0) = ways g.length q (decide (t = e)) := by
  cases q with
  | zero =>
    show (if decide (t = e) then (1 : Int) else 0) + 0 = _
    unfold ways
    rw [if_pos rfl, Int.add_zero]
  | succ q =>
    rw [sum_count, right_count G ht he q]
    unfold ways
    rw [if_neg (by omega)]
    exact Int.natCast_pow ..
end
/-- what is alike both ways round is counted twice -/
theorem twice (F : Int → Int → Int) : ∀ n : Nat, (∀ a b, inB n a = true → inB n b = true → F a b = F b a) →
    rgS n (fun a => rgS n fun b => if decide (a ≠ b) then F a b else 0) = 2 * sumI ((List.range n).map fun (a : Nat) => sumI (((List.range n).drop (a + 1)).map fun (b : Nat) => F a b))
  | 0, _ => rfl
  | n + 1, h => by
    have up : ∀ x, inB n x = true → inB (n + 1) x = true := fun x hx => by
      obtain ⟨x0, x1⟩ := inB_iff.mp hx
      exact inB_iff.mpr ⟨x0, by omega⟩
    have ih := twice F n fun a b ha hb => h a b (up a ha) (up b hb)
    have nn : inB (n + 1) (n : Int) = true := inB_iff.mpr ⟨by omega, by omega⟩
    have split : ∀ f : Int → Int, rgS (n + 1) f = rgS n f + f n := fun f => by
      unfold rgS
      rw [List.range_succ, List.map_append, sumI_app]
      show _ + (f n + 0) = _
      rw [Int.add_zero]
    -- left
    have l1 : rgS (n + 1) (fun a => rgS (n + 1) fun b => if decide (a ≠ b) then F a b else 0) = rgS n (fun a => rgS n fun b => if decide (a ≠ b) then F a b else 0) + rgS n (fun a => F a n) + rgS n (fun b => F b n) := by
      rw [split]
      have e1 : rgS n (fun a => rgS (n + 1) fun b => if decide (a ≠ b) then F a b else 0) = rgS n (fun a => rgS n fun b => if decide (a ≠ b) then F a b else 0) + rgS n (fun a => F a n) := by
        unfold rgS
        rw [← sum_add]
        refine sum_congr fun a ha => ?_
        have ha := List.mem_range.mp ha
        have := split fun b => if decide ((a : Int) ≠ b) then F a b else 0
        unfold rgS at this
        dsimp only at this ⊢
        rw [this]
        rw [if_pos (decide_eq_true (show (a : Int) ≠ (n : Int) by omega))]
      have e2 : rgS (n + 1) (fun b => if decide ((n : Int) ≠ b) then F n b else 0) = rgS n (fun b => F b n) := by
        rw [split]
        rw [if_neg (by simp), Int.add_zero]
        refine rgS_congr fun b hb => ?_
        have hb2 := inB_iff.mp hb
        rw [if_pos (decide_eq_true (show (n : Int) ≠ b by omega))]
        exact h n b nn (up b hb)
      rw [e1, e2]
    rw [l1, ih]
    -- right
    have r1 : sumI ((List.range (n + 1)).map fun (a : Nat) => sumI (((List.range (n + 1)).drop (a + 1)).map fun (b : Nat) => F a b)) = sumI ((List.range n).map fun (a : Nat) => sumI (((List.range n).drop (a + 1)).map fun (b : Nat) => F a b)) + rgS n (fun a => F a n) := by
      rw [List.range_succ, List.map_append, sumI_app]
      have e3 : sumI ([n].map fun (a : Nat) => sumI (((List.range n ++ [n]).drop (a + 1)).map fun (b : Nat) => F a b)) = 0 := by
        show sumI (((List.range n ++ [n]).drop (n + 1)).map fun (b : Nat) => F n b) + 0 = 0
        rw [List.drop_of_length_le (by simp)]; rfl
      rw [e3, Int.add_zero]
      unfold rgS
      rw [← sum_add]
      refine sum_congr fun a ha => ?_
      have ha := List.mem_range.mp ha
      rw [List.drop_append_of_le_length (by rw [List.length_range]; omega), List.map_append, sumI_app]
      show _ + (F a n + 0) = _
      rw [Int.add_zero]
    rw [r1]
    omega
section
variable {g : List (List Int)} {s e : Int} (G : Good g s e)
include G
/-- one place of two signs -/
theorem slip_mid {t : Int} (u : List Int) (ht : fin g s u = t) (hu : u.all (inB g.length) = true) {a b : Int} (ha : inB g.length a = true) (hb : inB g.length b = true) (q : Nat) :
    sumI ((allC g.length q).map fun v => slip g s e u.length (u ++ a :: b :: v)) = if decide (a ≠ b) then (if passB g t a b then ways g.length q (decide (ent g (ent g t a) b = e)) else 0) else 0 := by
  have L := G.toLat
  have hti : inB g.length t = true := by rw [← ht]; exact L.fin_in G.s_in hu
  have f1 : ∀ v, fin g s (u ++ a :: b :: v) = fin g (ent g (ent g t a) b) v := fun v => by rw [fin_app, ht]; rfl
  have f2 : ∀ v, fin g s (u ++ [b, a] ++ v) = fin g (ent g (ent g t b) a) v := fun v => by rw [List.append_assoc, fin_app, ht]; rfl
  have i1 := L.ent_in (L.ent_in hti ha) hb
  have i2 := L.ent_in (L.ent_in hti hb) ha
  cases hab : decide (a ≠ b) with
  | false =>
    rw [if_neg (by decide)]
    rw [sum_congr (h := fun _ => (0 : Int)) fun v _ => by rw [slip_app, hab]; rfl]
    exact sum_zero _
  | true =>
    rw [if_pos rfl]
    cases hp : passB g t a b with
    | true =>
      rw [if_pos rfl, ← sum_back L i1 G.e_in q]
      refine sum_congr fun v _ => ?_
      rw [slip_app, f1, f2, hab]
      have : ent g (ent g t a) b = ent g (ent g t b) a := of_decide_eq_true hp
      rw [← this]
      simp
    | false =>
      rw [if_neg (by decide)]
      rw [sum_congr (h := fun _ => (0 : Int)) fun v hv => ?_]
      · exact sum_zero _
      · rw [slip_app, f1, f2, hab]
        rw [if_neg]
        intro hh
        simp only [Bool.and_eq_true, decide_eq_true_eq, Bool.true_and] at hh
        have := L.fin_inj i1 i2 (allC_in _ _ v hv).2 (hh.1.trans hh.2.symm)
        exact of_decide_eq_false hp this
theorem slips_are {l p : Nat} (hp : p + 2 ≤ l) : sumI ((allC g.length l).map (slip g s e p)) = sumI ((swL g).map (term g s e l p)) := by
  have L := G.toLat
  obtain ⟨q, rfl⟩ : ∃ q, l = p + (2 + q) := ⟨l - p - 2, by omega⟩
  rw [sum_codes g.length p (2 + q)]
  have e1 : ∀ u ∈ allC g.length p, sumI ((allC g.length (2 + q)).map fun v => slip g s e p (u ++ v)) = 2 * sumI ((List.range g.length).map fun (a : Nat) => sumI (((List.range g.length).drop (a + 1)).map fun (b : Nat) => if passB g (fin g s u) a b then ways g.length q (decide (ent g (ent g (fin g s u) a) b = e)) else 0)) := fun u hu => by
    obtain ⟨hul, hua⟩ := allC_in _ _ u hu
    rw [sum_codes g.length 2 q, sum_c2, ← twice (fun a b => if passB g (fin g s u) a b then ways g.length q (decide (ent g (ent g (fin g s u) a) b = e)) else 0)]
    · refine rgS_congr fun a ha => rgS_congr fun b hb => ?_
      have := slip_mid G u rfl hua ha hb q
      rw [hul] at this
      rw [← this]
      rfl
    · intro a b ha hb
      cases h : passB g (fin g s u) a b with
      | true =>
        have q1 : ent g (ent g (fin g s u) a) b = ent g (ent g (fin g s u) b) a := of_decide_eq_true h
        have q2 : passB g (fin g s u) b a = true := decide_eq_true q1.symm
        rw [q2, if_pos rfl, if_pos rfl, q1]
      | false =>
        have q2 : passB g (fin g s u) b a = false := decide_eq_false fun q => of_decide_eq_false h q.symm
        rw [q2]
        simp
  rw [sum_congr e1]
  rw [sum_fin L (fun t => 2 * sumI ((List.range g.length).map fun (a : Nat) => sumI (((List.range g.length).drop (a + 1)).map fun (b : Nat) => if passB g t a b then ways g.length q (decide (ent g (ent g t a) b = e)) else 0))) G.s_in p]
  unfold swL
  rw [sum_flat]
  unfold rgS
  refine sum_congr fun t _ => ?_
  unfold swM
  dsimp only
  rw [sum_flat, ← Int.mul_assoc, ← sum_mul]
  refine sum_congr fun a _ => ?_
  unfold swI
  rw [List.map_map, sum_filter, ← sum_mul]
  refine sum_congr fun b _ => ?_
  show _ = if passB g t a b then term g s e (p + (2 + q)) p (t, a, b) else 0
  unfold term last3
  rw [show p + (2 + q) - p - 2 = q by omega]
  cases h : passB g t a b with
  | true => simp [Int.mul_comm, Int.mul_left_comm]
  | false => simp
end
end K50
end
section
set_option Elab.async false
set_option linter.all false
set_option maxRecDepth 100000
set_option maxHeartbeats 4000000
namespace K50
open PySem TW
variable {W : Nat}
/-! ### the uneven square -/
def iv (p : List Int) (r : Nat) : Nat := p.idxOf (r : Int)
theorem Shuf.iv_lt {n : Nat} {p : List Int} (h : Shuf n p) {r : Nat} (hr : r < n) : iv p r < n ∧ p.getD (iv p r) 0 = r := by
  have hm : (r : Int) ∈ p := all_met h.nd h.len h.inn (inB_iff.mpr ⟨by omega, by omega⟩)
  have h1 := List.idxOf_lt_length_iff.mpr hm
  refine ⟨by rw [← h.len]; exact h1, ?_⟩
  unfold iv
  rw [List.getD_eq_getElem?_getD, List.getElem?_eq_getElem h1]
  exact List.getElem_idxOf h1
theorem Shuf.iv_at {n : Nat} {p : List Int} (h : Shuf n p) {i : Nat} (hi : i < n) : iv p (p.getD i 0).toNat = i := by
  obtain ⟨h1, h2⟩ := h.get hi
  obtain ⟨a, b⟩ := inB_iff.mp h2
  obtain ⟨c, d⟩ := h.iv_lt (r := (p.getD i 0).toNat) (by omega)
  exact h.inj c hi (by rw [d]; omega)
def ivL (n : Nat) (p : List Int) : List Int := (List.range n).map fun (r : Nat) => (iv p r : Int)
theorem Shuf.inv {n : Nat} {p : List Int} (h : Shuf n p) : Shuf n (ivL n p) := by
  refine ⟨by simp [ivL], nodup_map fun i j hi hj e => ?_, ?_⟩
  · have e : iv p i = iv p j := by omega
    have h1 := (h.iv_lt hi).2
    rw [e, (h.iv_lt hj).2] at h1
    omega
  · rw [List.all_eq_true]
    intro x hx
    obtain ⟨r, hr, rfl⟩ := List.mem_map.mp hx
    have := (h.iv_lt (List.mem_range.mp hr)).1
    exact inB_iff.mpr ⟨by omega, by omega⟩
def sqU : List (List Int) := [[0, 1, 2, 3, 4], [1, 0, 3, 4, 2], [2, 4, 0, 1, 3], [3, 2, 4, 0, 1], [4, 3, 1, 2, 0]]
theorem fine_U : Fine sqU := fine_of (by decide +kernel)
def valU (p : List Int) (i j : Nat) : Int := p.getD (ent sqU i j).toNat 0
/-- what stands in the rows behind i whole lines and j signs -/
def midU (p q : List Int) (i j : Nat) (r c : Nat) : Int := if decide (iv p r < i) || (decide (iv p r = i) && decide (iv q c < j)) then valU p (iv p r) (iv q c) else 0
def rowsS (F : Nat → Nat → Int) : Sto := (tabL 5 F).map fun r => (0, iL r)
theorem tab_congr {n : Nat} {F F' : Nat → Nat → Int} (h : ∀ i j, i < n → j < n → F i j = F' i j) : tabL n F = tabL n F' := by
  unfold tabL
  refine List.map_congr_left fun i hi => List.map_congr_left fun j hj => h i j (List.mem_range.mp hi) (List.mem_range.mp hj)
theorem row_set {n : Nat} (f : Nat → Int) {b : Nat} (hb : b < n) (v : Int) : ((List.range n).map f).set b v = (List.range n).map fun j => if j = b then v else f j := by
  apply List.ext_getElem
  · simp
  · intro i h1 h2
    rw [List.getElem_set]
    simp only [List.getElem_map, List.getElem_range]
    by_cases e : b = i
    · subst e; simp
    · rw [if_neg e, if_neg fun q => e q.symm]
theorem tab_set {n : Nat} (F : Nat → Nat → Int) {a b : Nat} (ha : a < n) (hb : b < n) (v : Int) : (tabL n F).set a (((List.range n).map (F a)).set b v) = tabL n fun i j => if i = a ∧ j = b then v else F i j := by
  unfold tabL
  rw [row_set _ hb]
  apply List.ext_getElem
  · simp
  · intro i h1 h2
    rw [List.getElem_set]
    simp only [List.getElem_map, List.getElem_range]
    by_cases e : a = i
    · subst e; simp
    · rw [if_neg e]
      refine List.map_congr_left fun j _ => ?_
      rw [if_neg fun q => e q.1.symm]
def un3 : T := (.cons (.asgii 4 (.idx (.var 2) (.var 5)) (.idx (.var 3) (.var 6)) (.idx (.var 2) (.idx (.idx (.var 1) (.var 5)) (.var 6)))) .nil)
def un2 : T := (.cons (.forr (.var 6) (.rng (.cons (.int 5) .nil)) un3) .nil)
def unP : T := (.parr 2 3 4 (.call i_law_shuffled [true, false] (.cons (.var 0) (.cons (.int 5) .nil))) (.call i_law_shuffled [true, false] (.cons (.var 0) (.cons (.int 5) .nil))) [5] (.var 5) (.rng (.cons (.int 5) .nil)) (.bin .mul (.lst (.cons (.int 0) .nil)) (.int 5)))
def unA : T := (.asg (.var 1) (.lst (.cons (.lst (.cons (.int 0) (.cons (.int 1) (.cons (.int 2) (.cons (.int 3) (.cons (.int 4) .nil)))))) (.cons (.lst (.cons (.int 1) (.cons (.int 0) (.cons (.int 3) (.cons (.int 4) (.cons (.int 2) .nil)))))) (.cons (.lst (.cons (.int 2) (.cons (.int 4) (.cons (.int 0) (.cons (.int 1) (.cons (.int 3) .nil)))))) (.cons (.lst (.cons (.int 3) (.cons (.int 2) (.cons (.int 4) (.cons (.int 0) (.cons (.int 1) .nil)))))) (.cons (.lst (.cons (.int 4) (.cons (.int 3) (.cons (.int 1) (.cons (.int 2) (.cons (.int 0) .nil)))))) .nil)))))))
theorem un_t : t_law_uneven = (.cons unA (.cons unP (.cons (.forr (.var 5) (.rng (.cons (.int 5) .nil)) un2) (.cons (.retg 4) .nil)))) := rfl
abbrev js5 : List Nat := [1, 2, 3, 4, 5]
section
variable {p q : List Int} (hp : Shuf 5 p) (hq : Shuf 5 q) (k : Nat) (gd : PyData)
include hp hq
theorem un_in {i j : Nat} (hi : i < 5) (hj : j < 5) :
    bodyF tb (evC tb W k) W 1 un3 [some (cel 0), some (gD sqU), some (iL p), some (iL q), some (grD js5), some (.int i), some (.int j)] ((0, gd) :: rowsS (midU p q i j))
      = some (.nx [some (cel 0), some (gD sqU), some (iL p), some (iL q), some (grD js5), some (.int i), some (.int j)] ((0, gd) :: rowsS (midU p q i (j + 1)))) := by
  have L := fine_U.lat
  have ii : inB sqU.length (i : Int) = true := inB_iff.mpr ⟨by omega, by show (i : Int) < 5; omega⟩
  have ij : inB sqU.length (j : Int) = true := inB_iff.mpr ⟨by omega, by show (j : Int) < 5; omega⟩
  have iv5 : inB 5 (ent sqU i j) = true := L.ent_in ii ij
  obtain ⟨e0, e1⟩ := inB_iff.mp iv5
  obtain ⟨p1, p2⟩ := hp.get hi
  obtain ⟨q1, q2⟩ := hq.get hj
  obtain ⟨p3, p4⟩ := hp.get (i := (ent sqU i j).toNat) (by omega)
  obtain ⟨a0, a1⟩ := inB_iff.mp p2
  obtain ⟨b0, b1⟩ := inB_iff.mp q2
  have gp : (p.map PyData.int)[i]? = some (.int (p.getD i 0)) := by rw [List.getElem?_map, p1]; rfl
  have gq : (q.map PyData.int)[j]? = some (.int (q.getD j 0)) := by rw [List.getElem?_map, q1]; rfl
  have gv : (p.map PyData.int)[(ent sqU i j).toNat]? = some (.int (valU p i j)) := by rw [List.getElem?_map, p3]; rfl
  have xi : ixD 5 (i : Int) = some i := ixD_in hi
  have xj : ixD 5 (j : Int) = some j := ixD_in hj
  have gr := grOf_grD js5
  have gj : js5[(p.getD i 0).toNat]? = some ((p.getD i 0).toNat + 1) := by
    have : (p.getD i 0).toNat < 5 := by omega
    generalize (p.getD i 0).toNat = a at this
    match a, this with
    | 0, _ => rfl
    | 1, _ => rfl
    | 2, _ => rfl
    | 3, _ => rfl
    | 4, _ => rfl
  have gs : (rowsS (midU p q i j))[(p.getD i 0).toNat]? = some (0, iL ((List.range 5).map (midU p q i j (p.getD i 0).toNat))) := by
    unfold rowsS tabL
    rw [List.getElem?_map, List.getElem?_map, List.getElem?_range (by omega)]; rfl
  have l1 : ((List.range 5).map (midU p q i j (p.getD i 0).toNat)).length = 5 := by simp
  have gf : (rowsS (midU p q i j)).set (p.getD i 0).toNat (0, .list ((((List.range 5).map (midU p q i j (p.getD i 0).toNat)).map PyData.int).set (q.getD j 0).toNat (.int (valU p i j)))) = rowsS (midU p q i (j + 1)) := by
    have e : (((List.range 5).map (midU p q i j (p.getD i 0).toNat)).map PyData.int).set (q.getD j 0).toNat (.int (valU p i j)) = (((List.range 5).map (midU p q i j (p.getD i 0).toNat)).set (q.getD j 0).toNat (valU p i j)).map PyData.int := by rw [List.map_set]
    rw [e]
    unfold rowsS
    rw [show ((0 : Nat), PyData.list ((((List.range 5).map (midU p q i j (p.getD i 0).toNat)).set (q.getD j 0).toNat (valU p i j)).map PyData.int)) = (fun r => ((0 : Nat), iL r)) (((List.range 5).map (midU p q i j (p.getD i 0).toNat)).set (q.getD j 0).toNat (valU p i j)) from rfl, ← List.map_set, tab_set _ (by omega) (by omega)]
    refine congrArg _ (tab_congr fun r c hr hc => ?_)
    obtain ⟨u1, u2⟩ := hp.iv_lt hr
    obtain ⟨w1, w2⟩ := hq.iv_lt hc
    by_cases e1 : r = (p.getD i 0).toNat
    · have er : iv p r = i := by rw [e1]; exact hp.iv_at hi
      by_cases e2 : c = (q.getD j 0).toNat
      · have ec : iv q c = j := by rw [e2]; exact hq.iv_at hj
        rw [if_pos ⟨e1, e2⟩]
        unfold midU
        rw [er, ec]
        simp
      · rw [if_neg fun h => e2 h.2]
        have ec : iv q c ≠ j := fun h => e2 (by rw [h] at w2; omega)
        unfold midU
        have : decide (iv q c < j + 1) = decide (iv q c < j) := by
          by_cases h : iv q c < j
          · rw [decide_eq_true h, decide_eq_true (by omega)]
          · rw [decide_eq_false h, decide_eq_false (by omega)]
        rw [this]
    · rw [if_neg fun h => e1 h.1]
      have er : iv p r ≠ i := fun h => e1 (by rw [h] at u2; omega)
      unfold midU
      rw [decide_eq_false er]
      rfl
  have pl : p.length = 5 := hp.len
  have ql : q.length = 5 := hq.len
  have sl : sqU.length = 5 := rfl
  simp -implicitDefEqProofs only [bodyF, un3, bnd_some, bnd_none, mpd_some, mpd_none, cnd_true, cnd_false, e_var, vl_int, vl_bool, vl_none, vl_str, vl_list, vl_tuple, vl_edict, vl_cel, vl_scr, e_int, e_str, e_bl, e_non, e_edict, e_bin, e_neg, e_cmp, e_chain, e_and, e_or, e_not, e_ite, e_tup, e_lst, e_call, e_callk, e_bi, e_mt, e_idx, e_sl, e_slr, e_lc, e_thaw, e_lrng, l_nil, l_cons, o_nil, o_cons, t_nil, t_cons, i_rng, i_cons, s_asg, s_asgm, s_asgi, s_par, s_ex, s_ret, s_retm, s_retn, s_iff, s_forr, s_whl, s_pas, s_brk, s_cnt, b_nil, b_cons, th_nx, th_rt, th_bk, th_ct, List.getElem?_cons_zero, List.getElem?_cons_succ, List.map_cons, List.map_nil, List.cons_append, List.nil_append, List.replicate_succ, List.replicate_zero, if_true, if_false, Bool.false_eq_true, Bool.not_true, Bool.not_false, peek_int, peek_bool, peek_none, peek_str, peek_list, peek_tuple, peek_edict, peek_cel, settle_int, settle_bool, settle_none, settle_str, settle_list, settle_tuple, settle_edict, isTrueD_bool, biD, one, two, kindB, tyD, lenD, intOfD, iiD, sumD, listD, tupleD, binD, addD_int, subD, mulD_int, intD, cmpD, cmpI, isD, isNon, eqD_int, eqD_str, outD_rt, outD_rtt, outD_nx, bindT, List.set_cons_zero, List.set_cons_succ, wipeE, frE, celOf_int, celOf_bool, celOf_none, celOf_str, celOf_list, celOf_tuple, celOf_edict, celOf_cel, Option.isNone_none, Option.isNone_some, Bool.and_true, Bool.true_and, Bool.and_false, Bool.false_and, Bool.or_true, Bool.true_or, Bool.or_false, Bool.false_or, beginD_list, beginD_tuple, unlock_none, unlockO, idxD_list, idxD_tuple, setsE, decide_true, decide_false, List.take_nil, List.length_nil, List.length_cons, mtD, List.set_nil, List.getElem?_nil, Nat.zero_add, decide_eq_true_eq, sb_nil, sb_t, sb_f, sb_e, sa_nil, sa_cons, Nat.reduceSub, Nat.reduceLT, Nat.reduceAdd, Nat.reduceMul, Nat.reduceLeDiff, cnd_and, cnd_or, Option.bind_some, Option.map_some, Option.bind_none, Option.map_none, List.length_map, reduceCtorEq, beq_self_eq_true, eqD_nil, line, Nat.zero_le, ixD_0, ixD_1, ixD_2, ixD_last, Int.reduceEq, Int.reduceLT, Int.reduceLE, Int.reduceNeg, Int.reduceAdd, Int.reduceSub, Int.reduceMul, Nat.reduceEqDiff, Int.cast_ofNat_Int, List.getD_cons_zero, List.getD_cons_succ, s_asgii, pl, ql, xi, xj, ixD_int ii, ixD_int ij, L.get1 ii, L.len1 ii, L.get2 ii ij, ixD_int iv5, gp, gq, gv, gr, ixD_int p2, ixD_int q2, gj, gs, l1, gf]
theorem un_mid {i : Nat} (hi : i < 5) (v6 : Option PyData) :
    ∃ w6, bodyF tb (evC tb W k) W 1 un2 [some (cel 0), some (gD sqU), some (iL p), some (iL q), some (grD js5), some (.int i), v6] ((0, gd) :: rowsS (midU p q i 0))
      = some (.nx [some (cel 0), some (gD sqU), some (iL p), some (iL q), some (grD js5), some (.int i), w6] ((0, gd) :: rowsS (midU p q (i + 1) 0))) := by
  obtain ⟨env', S', h1, w6, h2, h3⟩ := forLoop_ind (tg := .var 6) (g := fun (i : Nat) => PyData.int i) (body := bodyF tb (evC tb W k) W 1 un3)
    (fun j env S => ∃ w6, env = [some (cel 0), some (gD sqU), some (iL p), some (iL q), some (grD js5), some (.int i), w6] ∧ S = (0, gd) :: rowsS (midU p q i j)) (List.range 5)
    (env := [some (cel 0), some (gD sqU), some (iL p), some (iL q), some (grD js5), some (.int i), v6]) (S := (0, gd) :: rowsS (midU p q i 0)) ⟨v6, rfl, rfl⟩ (by
      rintro j a env S ha ⟨w6, rfl, rfl⟩
      obtain ⟨hj, ea⟩ := List.getElem?_eq_some_iff.mp ha
      rw [List.getElem_range] at ea
      rw [List.length_range] at hj
      subst ea
      have hb := un_in (W := W) hp hq k gd hi hj
      exact ⟨_, _, _, rfl, .inl hb, ⟨_, rfl, rfl⟩⟩)
  subst h2 h3
  rw [List.length_range] at h1
  have e : rowsS (midU p q i 5) = rowsS (midU p q (i + 1) 0) := by
    unfold rowsS
    refine congrArg _ (tab_congr fun r c hr hc => ?_)
    obtain ⟨w1, w2⟩ := hq.iv_lt hc
    unfold midU
    have : (decide (iv p r < i) || (decide (iv p r = i) && decide (iv q c < 5))) = (decide (iv p r < i + 1) || (decide (iv p r = i + 1) && decide (iv q c < 0))) := by
      rw [decide_eq_true w1, decide_eq_false (show ¬ iv q c < 0 by omega), Bool.and_true, Bool.and_false, Bool.or_false]
      by_cases h : iv p r < i + 1
      · rw [decide_eq_true h]
        by_cases h2 : iv p r < i
        · rw [decide_eq_true h2]; rfl
        · rw [decide_eq_true (show iv p r = i by omega), Bool.or_true]
      · rw [decide_eq_false h, decide_eq_false (show ¬ iv p r < i by omega), decide_eq_false (show ¬ iv p r = i by omega)]; rfl
    rw [this]
  rw [e] at h1
  refine ⟨w6, ?_⟩
  have hr : rngD [.int 5] = some ((List.range 5).map fun (i : Nat) => PyData.int i) := rngD_one (j := 5) (by omega)
  simp -implicitDefEqProofs only [bodyF, un2, bnd_some, bnd_none, mpd_some, mpd_none, cnd_true, cnd_false, e_var, vl_int, vl_bool, vl_none, vl_str, vl_list, vl_tuple, vl_edict, vl_cel, vl_scr, e_int, e_str, e_bl, e_non, e_edict, e_bin, e_neg, e_cmp, e_chain, e_and, e_or, e_not, e_ite, e_tup, e_lst, e_call, e_callk, e_bi, e_mt, e_idx, e_sl, e_slr, e_lc, e_thaw, e_lrng, l_nil, l_cons, o_nil, o_cons, t_nil, t_cons, i_rng, i_cons, s_asg, s_asgm, s_asgi, s_par, s_ex, s_ret, s_retm, s_retn, s_iff, s_forr, s_whl, s_pas, s_brk, s_cnt, b_nil, b_cons, th_nx, th_rt, th_bk, th_ct, List.getElem?_cons_zero, List.getElem?_cons_succ, List.map_cons, List.map_nil, List.cons_append, List.nil_append, List.replicate_succ, List.replicate_zero, if_true, if_false, Bool.false_eq_true, Bool.not_true, Bool.not_false, peek_int, peek_bool, peek_none, peek_str, peek_list, peek_tuple, peek_edict, peek_cel, settle_int, settle_bool, settle_none, settle_str, settle_list, settle_tuple, settle_edict, isTrueD_bool, biD, one, two, kindB, tyD, lenD, intOfD, iiD, sumD, listD, tupleD, binD, addD_int, subD, mulD_int, intD, cmpD, cmpI, isD, isNon, eqD_int, eqD_str, outD_rt, outD_rtt, outD_nx, bindT, List.set_cons_zero, List.set_cons_succ, wipeE, frE, celOf_int, celOf_bool, celOf_none, celOf_str, celOf_list, celOf_tuple, celOf_edict, celOf_cel, Option.isNone_none, Option.isNone_some, Bool.and_true, Bool.true_and, Bool.and_false, Bool.false_and, Bool.or_true, Bool.true_or, Bool.or_false, Bool.false_or, beginD_list, beginD_tuple, unlock_none, unlockO, idxD_list, idxD_tuple, setsE, decide_true, decide_false, List.take_nil, List.length_nil, List.length_cons, mtD, List.set_nil, List.getElem?_nil, Nat.zero_add, decide_eq_true_eq, sb_nil, sb_t, sb_f, sb_e, sa_nil, sa_cons, Nat.reduceSub, Nat.reduceLT, Nat.reduceAdd, Nat.reduceMul, Nat.reduceLeDiff, cnd_and, cnd_or, Option.bind_some, Option.map_some, Option.bind_none, Option.map_none, List.length_map, reduceCtorEq, beq_self_eq_true, eqD_nil, line, Nat.zero_le, ixD_0, ixD_1, ixD_2, ixD_last, Int.reduceEq, Int.reduceLT, Int.reduceLE, Int.reduceNeg, Int.reduceAdd, Int.reduceSub, Int.reduceMul, Nat.reduceEqDiff, Int.cast_ofNat_Int, List.getD_cons_zero, List.getD_cons_succ, hr, h1]
theorem un_last : tabL 5 (midU p q 5 0) = tabL 5 (permF sqU (ivL 5 p) (ivL 5 q) p) := by
  refine tab_congr fun r c hr hc => ?_
  obtain ⟨u1, u2⟩ := hp.iv_lt hr
  unfold midU valU permF
  rw [decide_eq_true u1, Bool.true_or, if_pos rfl]
  have e1 : (ivL 5 p).getD r 0 = iv p r := by
    unfold ivL
    rw [List.getD_eq_getElem?_getD, List.getElem?_map, List.getElem?_range hr]; rfl
  have e2 : (ivL 5 q).getD c 0 = iv q c := by
    unfold ivL
    rw [List.getD_eq_getElem?_getD, List.getElem?_map, List.getElem?_range hc]; rfl
  rw [e1, e2]
end
theorem un_free (F : Nat → Nat → Int) (gd : PyData) : freezeAll ((0, gd) :: rowsS F) js5 = some ((tabL 5 F).map (fun r => iL r), (0, gd) :: (tabL 5 F).map fun r => (2, iL r)) := rfl
theorem un_rows (k : Nat) (gd v0 v1 : PyData) (v2 v3 v4 v5 v6 : Option PyData) : rowsLoop (rowOne tb (evC tb W k) [some v0, some v1, v2, v3, v4, v5, v6] [5] (.var 5) (.bin .mul (.lst (.cons (.int 0) .nil)) (.int 5))) ((List.range 5).map fun (i : Nat) => PyData.int i) [] [(0, gd)] = some (js5, (0, gd) :: rowsS fun _ _ => 0) := by kernel_rfl
theorem ev_uneven (k : Nat) {n : Nat} {gd : PyData} (G : GenOk n gd) (hn : n < 2 ^ 38) (hW : 200 ≤ W) :
    ∃ g gd', evC tb W (k + 4) i_law_uneven [cel 0] [(0, gd)] = some (gD g, [(0, gd')]) ∧ Fine g ∧ g.length = 5 ∧ GenOk (n + 10) gd' := by
  rw [evC_run (fn := f_law_uneven) rfl rfl]
  obtain ⟨p, g1, b1, b2, b3, b4, b5⟩ := cl_shuffled (W := W) k (i := 0) (m := 5) (S := [(0, gd)]) G rfl (by omega) (by omega) hW
  have b1 : callD (evC tb W (k + 3)) i_law_shuffled [cel 0, .int 5] [(0, gd)] = some (iL p, [(0, g1)]) := b1
  obtain ⟨q, g2, c1, c2, c3, c4, c5⟩ := cl_shuffled (W := W) k (i := 0) (m := 5) (S := [(0, g1)]) b5 rfl (by omega) (by omega) hW
  have c1 : callD (evC tb W (k + 3)) i_law_shuffled [cel 0, .int 5] [(0, g1)] = some (iL q, [(0, g2)]) := c1
  have hp : Shuf 5 p := ⟨b2, b3, b4⟩
  have hq : Shuf 5 q := ⟨c2, c3, c4⟩
  have hr : rngD [.int 5] = some ((List.range 5).map fun (i : Nat) => PyData.int i) := rngD_one (j := 5) (by omega)
  obtain ⟨env', S', h1, w5, w6, h2, h3⟩ := forLoop_ind (tg := .var 5) (g := fun (i : Nat) => PyData.int i) (body := bodyF tb (evC tb W (k + 3)) W 1 un2)
    (fun i env S => ∃ w5 w6, env = [some (cel 0), some (gD sqU), some (iL p), some (iL q), some (grD js5), w5, w6] ∧ S = (0, g2) :: rowsS (midU p q i 0)) (List.range 5)
    (env := [some (cel 0), some (gD sqU), some (iL p), some (iL q), some (grD js5), none, none]) (S := (0, g2) :: rowsS (midU p q 0 0)) ⟨none, none, rfl, rfl⟩ (by
      rintro i a env S ha ⟨w5, w6, rfl, rfl⟩
      obtain ⟨hi, ea⟩ := List.getElem?_eq_some_iff.mp ha
      rw [List.getElem_range] at ea
      rw [List.length_range] at hi
      subst ea
      obtain ⟨x6, hb⟩ := un_mid (W := W) hp hq (k + 3) g2 hi w6
      exact ⟨_, _, _, rfl, .inl hb, ⟨_, _, rfl, rfl⟩⟩)
  subst h2 h3
  rw [List.length_range] at h1
  refine ⟨tabL 5 (permF sqU (ivL 5 p) (ivL 5 q) p), g2, ?_, fine_perm fine_U hp.inv hq.inv hp, by simp [tabL], c5.mono (by omega)⟩
  have z0 : rowsS (midU p q 0 0) = rowsS fun _ _ => 0 := by
    unfold rowsS
    refine congrArg _ (tab_congr fun r c hr hc => ?_)
    unfold midU
    simp
  rw [z0] at h1
  show bnd (evB tb (evC tb W (k + 3)) W 1 t_law_uneven [some (cel 0), none, none, none, none, none, none] [(0, gd)]) (outD 1 false) _ = _
  have t1 : evS tb (evC tb W (k + 3)) W 1 unA [some (cel 0), none, none, none, none, none, none] [(0, gd)] = some (.nx [some (cel 0), some (gD sqU), none, none, none, none, none] [(0, gd)]) := rfl
  have ur := un_rows (W := W) (k + 3) g2 (cel 0) (gD sqU) none none none none none
  have t2 : evS tb (evC tb W (k + 3)) W 1 unP [some (cel 0), some (gD sqU), none, none, none, none, none] [(0, gd)] = some (.nx [some (cel 0), some (gD sqU), some (iL p), some (iL q), some (grD js5), none, none] ((0, g2) :: rowsS fun _ _ => 0)) := by
    unfold unP
    rw [s_parr]
    simp -implicitDefEqProofs only [bnd_some, bnd_none, mpd_some, mpd_none, cnd_true, cnd_false, e_var, vl_int, vl_bool, vl_none, vl_str, vl_list, vl_tuple, vl_edict, vl_cel, vl_scr, e_int, e_str, e_bl, e_non, e_edict, e_bin, e_neg, e_cmp, e_chain, e_and, e_or, e_not, e_ite, e_tup, e_lst, e_call, e_callk, e_bi, e_mt, e_idx, e_sl, e_slr, e_lc, e_thaw, e_lrng, l_nil, l_cons, o_nil, o_cons, t_nil, t_cons, i_rng, i_cons, s_asg, s_asgm, s_asgi, s_par, s_ex, s_ret, s_retm, s_retn, s_iff, s_forr, s_whl, s_pas, s_brk, s_cnt, b_nil, b_cons, th_nx, th_rt, th_bk, th_ct, List.getElem?_cons_zero, List.getElem?_cons_succ, List.map_cons, List.map_nil, List.cons_append, List.nil_append, List.replicate_succ, List.replicate_zero, if_true, if_false, Bool.false_eq_true, Bool.not_true, Bool.not_false, peek_int, peek_bool, peek_none, peek_str, peek_list, peek_tuple, peek_edict, peek_cel, settle_int, settle_bool, settle_none, settle_str, settle_list, settle_tuple, settle_edict, isTrueD_bool, biD, one, two, kindB, tyD, lenD, intOfD, iiD, sumD, listD, tupleD, binD, addD_int, subD, mulD_int, intD, cmpD, cmpI, isD, isNon, eqD_int, eqD_str, outD_rt, outD_rtt, outD_nx, bindT, List.set_cons_zero, List.set_cons_succ, wipeE, frE, celOf_int, celOf_bool, celOf_none, celOf_str, celOf_list, celOf_tuple, celOf_edict, celOf_cel, Option.isNone_none, Option.isNone_some, Bool.and_true, Bool.true_and, Bool.and_false, Bool.false_and, Bool.or_true, Bool.true_or, Bool.or_false, Bool.false_or, beginD_list, beginD_tuple, unlock_none, unlockO, idxD_list, idxD_tuple, setsE, decide_true, decide_false, List.take_nil, List.length_nil, List.length_cons, mtD, List.set_nil, List.getElem?_nil, Nat.zero_add, decide_eq_true_eq, sb_nil, sb_t, sb_f, sb_e, sa_nil, sa_cons, Nat.reduceSub, Nat.reduceLT, Nat.reduceAdd, Nat.reduceMul, Nat.reduceLeDiff, cnd_and, cnd_or, Option.bind_some, Option.map_some, Option.bind_none, Option.map_none, List.length_map, reduceCtorEq, beq_self_eq_true, eqD_nil, line, Nat.zero_le, ixD_0, ixD_1, ixD_2, ixD_last, Int.reduceEq, Int.reduceLT, Int.reduceLE, Int.reduceNeg, Int.reduceAdd, Int.reduceSub, Int.reduceMul, Nat.reduceEqDiff, Int.cast_ofNat_Int, List.getD_cons_zero, List.getD_cons_succ, b1, c1, hr, ur]
  have t3 : evS tb (evC tb W (k + 3)) W 1 (.forr (.var 5) (.rng (.cons (.int 5) .nil)) un2) [some (cel 0), some (gD sqU), some (iL p), some (iL q), some (grD js5), none, none] ((0, g2) :: rowsS fun _ _ => 0) = some (.nx [some (cel 0), some (gD sqU), some (iL p), some (iL q), some (grD js5), w5, w6] ((0, g2) :: rowsS (midU p q 5 0))) := by
    simp -implicitDefEqProofs only [bnd_some, bnd_none, mpd_some, mpd_none, cnd_true, cnd_false, e_var, vl_int, vl_bool, vl_none, vl_str, vl_list, vl_tuple, vl_edict, vl_cel, vl_scr, e_int, e_str, e_bl, e_non, e_edict, e_bin, e_neg, e_cmp, e_chain, e_and, e_or, e_not, e_ite, e_tup, e_lst, e_call, e_callk, e_bi, e_mt, e_idx, e_sl, e_slr, e_lc, e_thaw, e_lrng, l_nil, l_cons, o_nil, o_cons, t_nil, t_cons, i_rng, i_cons, s_asg, s_asgm, s_asgi, s_par, s_ex, s_ret, s_retm, s_retn, s_iff, s_forr, s_whl, s_pas, s_brk, s_cnt, b_nil, b_cons, th_nx, th_rt, th_bk, th_ct, List.getElem?_cons_zero, List.getElem?_cons_succ, List.map_cons, List.map_nil, List.cons_append, List.nil_append, List.replicate_succ, List.replicate_zero, if_true, if_false, Bool.false_eq_true, Bool.not_true, Bool.not_false, peek_int, peek_bool, peek_none, peek_str, peek_list, peek_tuple, peek_edict, peek_cel, settle_int, settle_bool, settle_none, settle_str, settle_list, settle_tuple, settle_edict, isTrueD_bool, biD, one, two, kindB, tyD, lenD, intOfD, iiD, sumD, listD, tupleD, binD, addD_int, subD, mulD_int, intD, cmpD, cmpI, isD, isNon, eqD_int, eqD_str, outD_rt, outD_rtt, outD_nx, bindT, List.set_cons_zero, List.set_cons_succ, wipeE, frE, celOf_int, celOf_bool, celOf_none, celOf_str, celOf_list, celOf_tuple, celOf_edict, celOf_cel, Option.isNone_none, Option.isNone_some, Bool.and_true, Bool.true_and, Bool.and_false, Bool.false_and, Bool.or_true, Bool.true_or, Bool.or_false, Bool.false_or, beginD_list, beginD_tuple, unlock_none, unlockO, idxD_list, idxD_tuple, setsE, decide_true, decide_false, List.take_nil, List.length_nil, List.length_cons, mtD, List.set_nil, List.getElem?_nil, Nat.zero_add, decide_eq_true_eq, sb_nil, sb_t, sb_f, sb_e, sa_nil, sa_cons, Nat.reduceSub, Nat.reduceLT, Nat.reduceAdd, Nat.reduceMul, Nat.reduceLeDiff, cnd_and, cnd_or, Option.bind_some, Option.map_some, Option.bind_none, Option.map_none, List.length_map, reduceCtorEq, beq_self_eq_true, eqD_nil, line, Nat.zero_le, ixD_0, ixD_1, ixD_2, ixD_last, Int.reduceEq, Int.reduceLT, Int.reduceLE, Int.reduceNeg, Int.reduceAdd, Int.reduceSub, Int.reduceMul, Nat.reduceEqDiff, Int.cast_ofNat_Int, List.getD_cons_zero, List.getD_cons_succ, hr, h1]
  have gr := grOf_grD js5
  have fz := un_free (midU p q 5 0) g2
  rw [un_last hp hq] at fz
  have t4 : evS tb (evC tb W (k + 3)) W 1 (.retg 4) [some (cel 0), some (gD sqU), some (iL p), some (iL q), some (grD js5), w5, w6] ((0, g2) :: rowsS (midU p q 5 0)) = some (.rt (gD (tabL 5 (permF sqU (ivL 5 p) (ivL 5 q) p))) false ((0, g2) :: (tabL 5 (permF sqU (ivL 5 p) (ivL 5 q) p)).map fun r => (2, iL r))) := by
    rw [s_retg]
    simp -implicitDefEqProofs only [List.getElem?_cons_succ, List.getElem?_cons_zero, gr, bnd_some, fz, mpd_some]
  rw [un_t, b_cons, t1, bnd_some, th_nx, b_cons, t2, bnd_some, th_nx, b_cons, t3, bnd_some, th_nx, b_cons, t4, bnd_some, th_rt, bnd_some, outD_rt]
  rfl
theorem cl_uneven (k : Nat) {n i : Nat} {gd : PyData} {S : Sto} (G : GenOk n gd) (hS : S[i]? = some (0, gd)) (hn : n < 2 ^ 38) (hW : 200 ≤ W) :
    ∃ g gd', callD (evC tb W (k + 4)) i_law_uneven [cel i] S = some (gD g, S.set i (0, gd')) ∧ Fine g ∧ g.length = 5 ∧ GenOk (n + 10) gd' := by
  obtain ⟨g, gd', h1, h2, h3, h4⟩ := ev_uneven (W := W) k G hn hW
  exact ⟨g, gd', callD_one rfl hS h1, h2, h3, h4⟩
end K50
end
section
set_option Elab.async false
set_option linter.all false
set_option maxRecDepth 100000
set_option maxHeartbeats 4000000
namespace K50
open PySem TW
variable {W : Nat}
theorem tame_in {n : Nat} (hn : n ≤ 1000) {x : Int} (h : inB n x = true) : tameI x := by
  obtain ⟨h1, h2⟩ := inB_iff.mp h
  unfold tameI; omega
theorem tame_code {n : Nat} (hn : n ≤ 1000) {c : List Int} (h : c.all (inB n) = true) : ∀ x ∈ c, tameI x := fun x hx => tame_in hn (List.all_eq_true.mp h x hx)
/-- great numbers -/
theorem reprD_big {i : Int} (h : i.natAbs.log2 < 1900) : reprD (.int i) = some (.str (PyData.int i).shown) := by
  unfold reprD
  have h1 := PySem.int_text_length_le (a := i) (k := 1900) (by omega) h
  have h2 : (PyData.int i).shown.length ≤ 1901 := by
    show (Str.ofString (toString i)).length ≤ 1901
    rw [ofString_length]; exact h1
  have e : ((PyData.int i).showable && (PyData.int i).canLay0 && decide ((PyData.int i).shown.length + 64 ≤ line) && decide ((PyData.int i).depth ≤ 64)) = true := by
    rw [decide_eq_true (show (PyData.int i).shown.length + 64 ≤ line by unfold line; omega)]
    rw [show (PyData.int i).showable = true from decide_eq_true (by omega)]
    rfl
  rw [if_pos e]
theorem sum_bound {α : Type} (f : α → Int) (M : Int) : ∀ l : List α, (∀ a ∈ l, 0 ≤ f a ∧ f a ≤ M) → 0 ≤ sumI (l.map f) ∧ sumI (l.map f) ≤ l.length * M
  | [], _ => by simp [sumI]
  | a :: l, h => by
    obtain ⟨h1, h2⟩ := h a (List.mem_cons_self ..)
    obtain ⟨h3, h4⟩ := sum_bound f M l fun b hb => h b (List.mem_cons_of_mem _ hb)
    show 0 ≤ f a + sumI (l.map f) ∧ f a + sumI (l.map f) ≤ ((l.length + 1 : Nat) : Int) * M
    rw [show ((l.length + 1 : Nat) : Int) = (l.length : Int) + 1 by omega, Int.add_mul, Int.one_mul]
    omega
theorem swL_len {g : List (List Int)} (h12 : g.length ≤ 12) : (swL g).length ≤ 1728 := by
  have := flat_le (f := fun s => swM g s (List.range g.length)) (m := 144) (l := List.range g.length) fun s _ => swM_len g h12 s _ (by rw [List.length_range]; exact h12)
  rw [List.length_range] at this
  unfold swL
  omega
theorem term_bound {g : List (List Int)} (h12 : g.length ≤ 12) (s e : Int) {l p : Nat} (hp : p + 2 ≤ l) (hl : l ≤ 100) (t : Nat × Nat × Nat) : 0 ≤ term g s e l p t ∧ term g s e l p t ≤ 2 * 2 ^ 400 * 2 ^ 400 := by
  have a1 := ways_lt g.length p h12 (by omega) (decide ((t.1 : Int) = s))
  have a2 := ways_lt g.length (l - p - 2) h12 (by omega) (decide (last3 g t = e))
  have a3 := ways_nn g.length p (decide ((t.1 : Int) = s))
  have a4 := ways_nn g.length (l - p - 2) (decide (last3 g t = e))
  unfold term
  refine ⟨Int.mul_nonneg (by omega) a4, ?_⟩
  refine Int.mul_le_mul (by omega) (by omega) a4 ?_
  generalize (2 : Int) ^ 400 = X at a1 a2
  omega
theorem slip_log {g : List (List Int)} (h12 : g.length ≤ 12) (s e : Int) {l p : Nat} (hp : p + 2 ≤ l) (hl : l ≤ 100) : (sumI ((swL g).map (term g s e l p))).natAbs.log2 < 1900 := by
  obtain ⟨h1, h2⟩ := sum_bound (term g s e l p) (2 * 2 ^ 400 * 2 ^ 400) (swL g) fun t _ => term_bound h12 s e hp hl t
  have h3 := swL_len h12
  have h4 : ((swL g).length : Int) * (2 * 2 ^ 400 * 2 ^ 400) ≤ 1728 * (2 * 2 ^ 400 * 2 ^ 400) := Int.mul_le_mul_of_nonneg_right (by omega) (by decide +kernel)
  have h5 : (1728 : Int) * (2 * 2 ^ 400 * 2 ^ 400) < 2 ^ 1000 := by decide +kernel
  have h6 : sumI ((swL g).map (term g s e l p)) < 2 ^ 1000 := Int.lt_of_le_of_lt (Int.le_trans h2 h4) h5
  have := small_log h1 h6 (by decide)
  omega
/-- all inner places alike -/
theorem term_inner {g : List (List Int)} (s e : Int) {l p : Nat} (h1 : 1 ≤ p) (h2 : p + 3 ≤ l) (t : Nat × Nat × Nat) : term g s e l p t = 2 * (g.length : Int) ^ (l - 4) := by
  unfold term ways
  rw [if_neg (by omega), if_neg (by omega), Int.mul_assoc, ← Int.pow_add, show p - 1 + (l - p - 2 - 1) = l - 4 by omega]
theorem sum_inner {g : List (List Int)} (s e : Int) {l p : Nat} (h1 : 1 ≤ p) (h2 : p + 3 ≤ l) : sumI ((swL g).map (term g s e l p)) = 2 * ((swL g).length : Int) * (g.length : Int) ^ (l - 4) := by
  rw [sum_congr fun t _ => term_inner s e h1 h2 t]
  generalize swL g = m
  generalize (g.length : Int) ^ (l - 4) = X
  induction m with
  | nil => simp [sumI]
  | cons a m ih =>
    show 2 * X + sumI (m.map fun _ => 2 * X) = _
    rw [ih, List.length_cons, show ((m.length + 1 : Nat) : Int) = (m.length : Int) + 1 by omega, Int.mul_add, Int.add_mul]
    omega
theorem met_rep (x : Int) : ∀ m : Nat, metD (List.replicate (m + 1) x) = 1 := fun m => by
  unfold metD PyProof.Rows.firstMet
  rw [getD_map]
  have : ∀ m : Nat, (List.replicate m x).foldl PyProof.Rows.step_dedup [x] = [x] := fun m => by
    induction m with
    | zero => rfl
    | succ m ih =>
      rw [List.replicate_succ, List.foldl_cons]
      have e : PyProof.Rows.step_dedup [x] x = [x] := by
        unfold PyProof.Rows.step_dedup
        simp
      rw [e, ih]
  rw [List.replicate_succ, List.foldl_cons]
  have e : PyProof.Rows.step_dedup [] x = [x] := by
    unfold PyProof.Rows.step_dedup
    simp
  rw [e, this]
  rfl
section
variable {g : List (List Int)} {s e : Int} (G : Good g s e) (h12 : g.length ≤ 12)
include G h12
theorem ch_repr : reprD (chD g s e) = some (.str (chD g s e).shown) := by
  have L := G.toLat
  have h := reprD_grid (R := 12) (g := g) (ns := [s, e]) (fun r hr => ⟨by rw [L.row r hr]; exact h12, by
      have hl := L.lat
      unfold latB at hl
      simp only [Bool.and_eq_true, List.all_eq_true] at hl
      exact tame_code G.few (once_facts (hl.1.2 r hr)).2.1⟩) (fun x hx => by
      simp at hx
      rcases hx with rfl | rfl
      · exact tame_in G.few G.s_in
      · exact tame_in G.few G.e_in) (by omega) (by omega) (by simp)
  exact h
end
/-! ### the parts of _law_right -/
def rs1 : T := (.asg (.var 1) (.call i_law_square [true] (.cons (.var 0) .nil)))
def fourT : T := (.lc [9] (.var 9) (.rng (.cons (.int 4) .nil)) .nil (.lc [10] (.var 10) (.rng (.cons (.int 4) .nil)) .nil (.bin .mod (.bi .int (.cons (.bin .add (.bin .mul (.int 3) (.var 9)) (.var 10)) .nil)) (.int 4))))
def rs2 : T := (.iff (.cmp .gt (.bi .len (.cons (.var 1) .nil)) (.int 7)) (.cons (.asg (.var 1) fourT) .nil) .nil)
def rs3 : T := (.iff (.cmp .eq (.call i_law_random [true, false] (.cons (.var 0) (.cons (.int 3) .nil))) (.int 0)) (.cons (.asg (.var 1) (.call i_law_uneven [true] (.cons (.var 0) .nil))) .nil) .nil)
def rs4 : T := (.asg (.var 2) (.bi .len (.cons (.var 1) .nil)))
def rs5 : T := (.asg (.var 3) (.tup (.cons (.var 1) (.cons (.call i_law_random [true, false] (.cons (.var 0) (.cons (.var 2) .nil))) (.cons (.call i_law_random [true, false] (.cons (.var 0) (.cons (.var 2) .nil))) .nil)))))
def rs6 : T := (.asg (.var 4) (.bi .repr (.cons (.var 3) .nil)))
def pa1 : T := (.asg (.var 8) (.call i_law_counted [] (.cons (.var 3) (.cons (.var 5) (.cons (.var 6) .nil)))))
def pa2 : T := (.iff (.and (.cmp .lt (.call i_law_power [] (.cons (.var 2) (.cons (.var 5) .nil))) (.int 260)) (.cmp .ne (.var 8) (.call i_law_slips [] (.cons (.var 3) (.cons (.var 5) (.cons (.var 6) .nil)))))) (.cons (.ret (.bl false)) .nil) .nil)
def pa3 : T := (.iff (.or (.cmp .ne (.bi .repr (.cons (.call i_how_many_slip [] (.cons (.var 3) (.cons (.var 5) (.cons (.var 6) .nil)))) .nil)) (.bi .repr (.cons (.var 8) .nil))) (.cmp .ne (.callk i_how_many_slip [2, 1, 0] (.cons (.var 6) (.cons (.var 5) (.cons (.var 3) .nil)))) (.var 8))) (.cons (.ret (.bl false)) .nil) .nil)
def paT : T := .cons pa1 (.cons pa2 (.cons pa3 .nil))
def lnT : T := (.cons (.forr (.var 6) (.rng (.cons (.bin .sub (.var 5) (.int 1)) .nil)) paT) .nil)
def rs7 : T := (.forr (.var 5) (.cons (.lst (.cons (.int 2) (.cons (.int 3) (.cons (.int 4) .nil)))) .nil) lnT)
def rs8 : T := (.asg (.var 5) (.bin .add (.int 4) (.call i_law_random [true, false] (.cons (.var 0) (.cons (.int 20) .nil)))))
def pb : T := (.cons (.iff (.cmp .ne (.bi .repr (.cons (.call i_how_many_slip [] (.cons (.var 3) (.cons (.var 5) (.cons (.var 6) .nil)))) .nil)) (.bi .repr (.cons (.call i_law_counted [] (.cons (.var 3) (.cons (.var 5) (.cons (.var 6) .nil)))) .nil))) (.cons (.ret (.bl false)) .nil) .nil) .nil)
def rs9 : T := (.forr (.var 6) (.cons (.lst (.cons (.int 0) (.cons (.bin .sub (.var 5) (.int 2)) (.cons (.call i_law_random [true, false] (.cons (.var 0) (.cons (.bin .sub (.var 5) (.int 1)) .nil))) .nil)))) .nil) pb)
def rs10 : T := (.asg (.var 7) (.lc [6] (.var 6) (.rng (.cons (.int 1) (.cons (.bin .sub (.var 5) (.int 2)) .nil))) .nil (.call i_how_many_slip [] (.cons (.var 3) (.cons (.var 5) (.cons (.var 6) .nil))))))
def rs11 : T := (.iff (.or (.cmp .ne (.bi .lenSet (.cons (.var 7) .nil)) (.int 1)) (.or (.cmp .ne (.idx (.var 7) (.int 0)) (.call i_law_counted [] (.cons (.var 3) (.cons (.var 5) (.cons (.int 1) .nil))))) (.cmp .ne (.idx (.var 7) (.int 0)) (.bin .mul (.bin .mul (.int 2) (.bi .len (.cons (.call i_law_swaps [] (.cons (.var 1) .nil)) .nil))) (.call i_law_power [] (.cons (.var 2) (.cons (.bin .sub (.var 5) (.int 4)) .nil))))))) (.cons (.ret (.bl false)) .nil) .nil)
def rs12 : T := (.ret (.and (.cmp .eq (.bi .repr (.cons (.var 3) .nil)) (.var 4)) (.cmp .eq (.call i_how_many_right_lists [] (.cons (.var 3) (.cons (.var 5) .nil))) (.call i_law_power [] (.cons (.var 2) (.cons (.bin .sub (.var 5) (.int 1)) .nil))))))
theorem right_t : t_law_right = .cons rs1 (.cons rs2 (.cons rs3 (.cons rs4 (.cons rs5 (.cons rs6 (.cons rs7 (.cons rs8 (.cons rs9 (.cons rs10 (.cons rs11 (.cons rs12 .nil))))))))))) := rfl
section
variable {g : List (List Int)} {s e : Int} (G : Good g s e) (h12 : g.length ≤ 12) (k : Nat) (S : Sto)
include G h12
omit G h12 in
theorem pa1_ok {l p : Nat} {X : Int} (v0 v1 v4 v7 v8 v9 v10 : Option PyData) (c1 : callD (evC tb W (k + 8)) i_law_counted [chD g s e, .int l, .int p] S = some (.int X, S)) :
    evS tb (evC tb W (k + 8)) W 1 pa1 [v0, v1, some (.int g.length), some (chD g s e), v4, some (.int l), some (.int p), v7, v8, v9, v10] S = some (.nx [v0, v1, some (.int g.length), some (chD g s e), v4, some (.int l), some (.int p), v7, some (.int X), v9, v10] S) := by
  unfold pa1
  simp -implicitDefEqProofs -dsimp only [bnd_some, bnd_none, mpd_some, mpd_none, cnd_true, cnd_false, e_var, vl_int, vl_bool, vl_none, vl_str, vl_list, vl_tuple, vl_edict, vl_cel, vl_scr, e_int, e_str, e_bl, e_non, e_edict, e_bin, e_neg, e_cmp, e_chain, e_and, e_or, e_not, e_ite, e_tup, e_lst, e_call, e_callk, e_bi, e_mt, e_idx, e_sl, e_slr, e_lc, e_thaw, e_lrng, l_nil, l_cons, o_nil, o_cons, t_nil, t_cons, i_rng, i_cons, s_asg, s_asgm, s_asgi, s_par, s_ex, s_ret, s_retm, s_retn, s_iff, s_forr, s_whl, s_pas, s_brk, s_cnt, b_nil, b_cons, th_nx, th_rt, th_bk, th_ct, List.getElem?_cons_zero, List.getElem?_cons_succ, List.map_cons, List.map_nil, List.cons_append, List.nil_append, List.replicate_succ, List.replicate_zero, if_true, if_false, Bool.false_eq_true, Bool.not_true, Bool.not_false, peek_int, peek_bool, peek_none, peek_str, peek_list, peek_tuple, peek_edict, peek_cel, settle_int, settle_bool, settle_none, settle_str, settle_list, settle_tuple, settle_edict, isTrueD_bool, biD, one, two, kindB, tyD, lenD, intOfD, iiD, sumD, listD, tupleD, binD, addD_int, subD, mulD_int, intD, cmpD, cmpI, isD, isNon, eqD_int, eqD_str, outD_rt, outD_rtt, outD_nx, bindT, List.set_cons_zero, List.set_cons_succ, wipeE, frE, celOf_int, celOf_bool, celOf_none, celOf_str, celOf_list, celOf_tuple, celOf_edict, celOf_cel, Option.isNone_none, Option.isNone_some, Bool.and_true, Bool.true_and, Bool.and_false, Bool.false_and, Bool.or_true, Bool.true_or, Bool.or_false, Bool.false_or, beginD_list, beginD_tuple, unlock_none, unlockO, idxD_list, idxD_tuple, setsE, decide_true, decide_false, List.take_nil, List.length_nil, List.length_cons, mtD, List.set_nil, List.getElem?_nil, Nat.zero_add, decide_eq_true_eq, sb_nil, sb_t, sb_f, sb_e, sa_nil, sa_cons, Nat.reduceSub, Nat.reduceLT, Nat.reduceAdd, Nat.reduceMul, Nat.reduceLeDiff, cnd_and, cnd_or, Option.bind_some, Option.map_some, Option.bind_none, Option.map_none, List.length_map, reduceCtorEq, beq_self_eq_true, eqD_nil, line, Nat.zero_le, ixD_0, ixD_1, ixD_2, ixD_last, Int.reduceEq, Int.reduceLT, Int.reduceLE, Int.reduceNeg, Int.reduceAdd, Int.reduceSub, Int.reduceMul, Nat.reduceEqDiff, Int.cast_ofNat_Int, List.getD_cons_zero, List.getD_cons_succ, c1]
omit G h12 in
theorem pa2_ok {l p : Nat} {X : Int} (v0 v1 v4 v7 v9 v10 : Option PyData) (c2 : callD (evC tb W (k + 8)) i_law_slips [chD g s e, .int l, .int p] S = some (.int X, S)) (c4 : callD (evC tb W (k + 8)) i_law_power [.int g.length, .int l] S = some (.int ((g.length : Int) ^ l), S)) :
    evS tb (evC tb W (k + 8)) W 1 pa2 [v0, v1, some (.int g.length), some (chD g s e), v4, some (.int l), some (.int p), v7, some (.int X), v9, v10] S = some (.nx [v0, v1, some (.int g.length), some (chD g s e), v4, some (.int l), some (.int p), v7, some (.int X), v9, v10] S) := by
  unfold pa2
  cases h : decide ((g.length : Int) ^ l < 260) with
  | false => simp -implicitDefEqProofs -dsimp only [bnd_some, bnd_none, mpd_some, mpd_none, cnd_true, cnd_false, e_var, vl_int, vl_bool, vl_none, vl_str, vl_list, vl_tuple, vl_edict, vl_cel, vl_scr, e_int, e_str, e_bl, e_non, e_edict, e_bin, e_neg, e_cmp, e_chain, e_and, e_or, e_not, e_ite, e_tup, e_lst, e_call, e_callk, e_bi, e_mt, e_idx, e_sl, e_slr, e_lc, e_thaw, e_lrng, l_nil, l_cons, o_nil, o_cons, t_nil, t_cons, i_rng, i_cons, s_asg, s_asgm, s_asgi, s_par, s_ex, s_ret, s_retm, s_retn, s_iff, s_forr, s_whl, s_pas, s_brk, s_cnt, b_nil, b_cons, th_nx, th_rt, th_bk, th_ct, List.getElem?_cons_zero, List.getElem?_cons_succ, List.map_cons, List.map_nil, List.cons_append, List.nil_append, List.replicate_succ, List.replicate_zero, if_true, if_false, Bool.false_eq_true, Bool.not_true, Bool.not_false, peek_int, peek_bool, peek_none, peek_str, peek_list, peek_tuple, peek_edict, peek_cel, settle_int, settle_bool, settle_none, settle_str, settle_list, settle_tuple, settle_edict, isTrueD_bool, biD, one, two, kindB, tyD, lenD, intOfD, iiD, sumD, listD, tupleD, binD, addD_int, subD, mulD_int, intD, cmpD, cmpI, isD, isNon, eqD_int, eqD_str, outD_rt, outD_rtt, outD_nx, bindT, List.set_cons_zero, List.set_cons_succ, wipeE, frE, celOf_int, celOf_bool, celOf_none, celOf_str, celOf_list, celOf_tuple, celOf_edict, celOf_cel, Option.isNone_none, Option.isNone_some, Bool.and_true, Bool.true_and, Bool.and_false, Bool.false_and, Bool.or_true, Bool.true_or, Bool.or_false, Bool.false_or, beginD_list, beginD_tuple, unlock_none, unlockO, idxD_list, idxD_tuple, setsE, decide_true, decide_false, List.take_nil, List.length_nil, List.length_cons, mtD, List.set_nil, List.getElem?_nil, Nat.zero_add, decide_eq_true_eq, sb_nil, sb_t, sb_f, sb_e, sa_nil, sa_cons, Nat.reduceSub, Nat.reduceLT, Nat.reduceAdd, Nat.reduceMul, Nat.reduceLeDiff, cnd_and, cnd_or, Option.bind_some, Option.map_some, Option.bind_none, Option.map_none, List.length_map, reduceCtorEq, beq_self_eq_true, eqD_nil, line, Nat.zero_le, ixD_0, ixD_1, ixD_2, ixD_last, Int.reduceEq, Int.reduceLT, Int.reduceLE, Int.reduceNeg, Int.reduceAdd, Int.reduceSub, Int.reduceMul, Nat.reduceEqDiff, Int.cast_ofNat_Int, List.getD_cons_zero, List.getD_cons_succ, c4, h]
  | true => simp -implicitDefEqProofs -dsimp only [bnd_some, bnd_none, mpd_some, mpd_none, cnd_true, cnd_false, e_var, vl_int, vl_bool, vl_none, vl_str, vl_list, vl_tuple, vl_edict, vl_cel, vl_scr, e_int, e_str, e_bl, e_non, e_edict, e_bin, e_neg, e_cmp, e_chain, e_and, e_or, e_not, e_ite, e_tup, e_lst, e_call, e_callk, e_bi, e_mt, e_idx, e_sl, e_slr, e_lc, e_thaw, e_lrng, l_nil, l_cons, o_nil, o_cons, t_nil, t_cons, i_rng, i_cons, s_asg, s_asgm, s_asgi, s_par, s_ex, s_ret, s_retm, s_retn, s_iff, s_forr, s_whl, s_pas, s_brk, s_cnt, b_nil, b_cons, th_nx, th_rt, th_bk, th_ct, List.getElem?_cons_zero, List.getElem?_cons_succ, List.map_cons, List.map_nil, List.cons_append, List.nil_append, List.replicate_succ, List.replicate_zero, if_true, if_false, Bool.false_eq_true, Bool.not_true, Bool.not_false, peek_int, peek_bool, peek_none, peek_str, peek_list, peek_tuple, peek_edict, peek_cel, settle_int, settle_bool, settle_none, settle_str, settle_list, settle_tuple, settle_edict, isTrueD_bool, biD, one, two, kindB, tyD, lenD, intOfD, iiD, sumD, listD, tupleD, binD, addD_int, subD, mulD_int, intD, cmpD, cmpI, isD, isNon, eqD_int, eqD_str, outD_rt, outD_rtt, outD_nx, bindT, List.set_cons_zero, List.set_cons_succ, wipeE, frE, celOf_int, celOf_bool, celOf_none, celOf_str, celOf_list, celOf_tuple, celOf_edict, celOf_cel, Option.isNone_none, Option.isNone_some, Bool.and_true, Bool.true_and, Bool.and_false, Bool.false_and, Bool.or_true, Bool.true_or, Bool.or_false, Bool.false_or, beginD_list, beginD_tuple, unlock_none, unlockO, idxD_list, idxD_tuple, setsE, decide_true, decide_false, List.take_nil, List.length_nil, List.length_cons, mtD, List.set_nil, List.getElem?_nil, Nat.zero_add, decide_eq_true_eq, sb_nil, sb_t, sb_f, sb_e, sa_nil, sa_cons, Nat.reduceSub, Nat.reduceLT, Nat.reduceAdd, Nat.reduceMul, Nat.reduceLeDiff, cnd_and, cnd_or, Option.bind_some, Option.map_some, Option.bind_none, Option.map_none, List.length_map, reduceCtorEq, beq_self_eq_true, eqD_nil, line, Nat.zero_le, ixD_0, ixD_1, ixD_2, ixD_last, Int.reduceEq, Int.reduceLT, Int.reduceLE, Int.reduceNeg, Int.reduceAdd, Int.reduceSub, Int.reduceMul, Nat.reduceEqDiff, Int.cast_ofNat_Int, List.getD_cons_zero, List.getD_cons_succ, c4, h, c2]
omit G h12 in
theorem pa3_ok {l p : Nat} {X : Int} (v0 v1 v4 v7 v9 v10 : Option PyData) (c3 : callD (evC tb W (k + 8)) i_how_many_slip [chD g s e, .int l, .int p] S = some (.int X, S)) (rp : reprD (.int X) = some (.str (PyData.int X).shown)) :
    evS tb (evC tb W (k + 8)) W 1 pa3 [v0, v1, some (.int g.length), some (chD g s e), v4, some (.int l), some (.int p), v7, some (.int X), v9, v10] S = some (.nx [v0, v1, some (.int g.length), some (chD g s e), v4, some (.int l), some (.int p), v7, some (.int X), v9, v10] S) := by
  unfold pa3
  simp -implicitDefEqProofs -dsimp only [bnd_some, bnd_none, mpd_some, mpd_none, cnd_true, cnd_false, e_var, vl_int, vl_bool, vl_none, vl_str, vl_list, vl_tuple, vl_edict, vl_cel, vl_scr, e_int, e_str, e_bl, e_non, e_edict, e_bin, e_neg, e_cmp, e_chain, e_and, e_or, e_not, e_ite, e_tup, e_lst, e_call, e_callk, e_bi, e_mt, e_idx, e_sl, e_slr, e_lc, e_thaw, e_lrng, l_nil, l_cons, o_nil, o_cons, t_nil, t_cons, i_rng, i_cons, s_asg, s_asgm, s_asgi, s_par, s_ex, s_ret, s_retm, s_retn, s_iff, s_forr, s_whl, s_pas, s_brk, s_cnt, b_nil, b_cons, th_nx, th_rt, th_bk, th_ct, List.getElem?_cons_zero, List.getElem?_cons_succ, List.map_cons, List.map_nil, List.cons_append, List.nil_append, List.replicate_succ, List.replicate_zero, if_true, if_false, Bool.false_eq_true, Bool.not_true, Bool.not_false, peek_int, peek_bool, peek_none, peek_str, peek_list, peek_tuple, peek_edict, peek_cel, settle_int, settle_bool, settle_none, settle_str, settle_list, settle_tuple, settle_edict, isTrueD_bool, biD, one, two, kindB, tyD, lenD, intOfD, iiD, sumD, listD, tupleD, binD, addD_int, subD, mulD_int, intD, cmpD, cmpI, isD, isNon, eqD_int, eqD_str, outD_rt, outD_rtt, outD_nx, bindT, List.set_cons_zero, List.set_cons_succ, wipeE, frE, celOf_int, celOf_bool, celOf_none, celOf_str, celOf_list, celOf_tuple, celOf_edict, celOf_cel, Option.isNone_none, Option.isNone_some, Bool.and_true, Bool.true_and, Bool.and_false, Bool.false_and, Bool.or_true, Bool.true_or, Bool.or_false, Bool.false_or, beginD_list, beginD_tuple, unlock_none, unlockO, idxD_list, idxD_tuple, setsE, decide_true, decide_false, List.take_nil, List.length_nil, List.length_cons, mtD, List.set_nil, List.getElem?_nil, Nat.zero_add, decide_eq_true_eq, sb_nil, sb_t, sb_f, sb_e, sa_nil, sa_cons, Nat.reduceSub, Nat.reduceLT, Nat.reduceAdd, Nat.reduceMul, Nat.reduceLeDiff, cnd_and, cnd_or, Option.bind_some, Option.map_some, Option.bind_none, Option.map_none, List.length_map, reduceCtorEq, beq_self_eq_true, eqD_nil, line, Nat.zero_le, ixD_0, ixD_1, ixD_2, ixD_last, Int.reduceEq, Int.reduceLT, Int.reduceLE, Int.reduceNeg, Int.reduceAdd, Int.reduceSub, Int.reduceMul, Nat.reduceEqDiff, Int.cast_ofNat_Int, List.getD_cons_zero, List.getD_cons_succ, c3, rp]
theorem pa_ok {l p : Nat} (hp : p + 2 ≤ l) (hl : l ≤ 4) (v0 v1 v4 v7 v8 v9 v10 : Option PyData) :
    ∃ X, bodyF tb (evC tb W (k + 8)) W 1 paT [v0, v1, some (.int g.length), some (chD g s e), v4, some (.int l), some (.int p), v7, v8, v9, v10] S
      = some (.nx [v0, v1, some (.int g.length), some (chD g s e), v4, some (.int l), some (.int p), v7, some (.int X), v9, v10] S) := by
  have hl2 : l ≤ 100 := Nat.le_trans hl (by decide)
  have c1 := cl_counted (W := W) G h12 (k + 6) l p hp hl2 S
  have c2 := cl_slips (W := W) G h12 (k + 6) l p hp hl S
  rw [slips_are G hp] at c2
  have c3 := cl_how_many_slip (W := W) G h12 k l p hp hl2 S
  have c4 := cl_power (W := W) (k + 7) g.length l G.few (Nat.le_trans hl (by decide)) S
  have rp := reprD_big (slip_log h12 s e hp hl2)
  refine ⟨sumI ((swL g).map (term g s e l p)), ?_⟩
  show evB tb (evC tb W (k + 8)) W 1 paT _ _ = _
  unfold paT
  rw [b_cons, pa1_ok (W := W) k S v0 v1 v4 v7 v8 v9 v10 c1, bnd_some, th_nx, b_cons, pa2_ok (W := W) k S v0 v1 v4 v7 v9 v10 c2 c4, bnd_some, th_nx, b_cons, pa3_ok (W := W) k S v0 v1 v4 v7 v9 v10 c3 rp, bnd_some, th_nx, b_nil]
theorem ln_ok {l : Nat} (h2 : 2 ≤ l) (hl : l ≤ 4) (v0 v1 v4 v6 v7 v8 v9 v10 : Option PyData) :
    ∃ w6 w8, bodyF tb (evC tb W (k + 8)) W 1 lnT [v0, v1, some (.int g.length), some (chD g s e), v4, some (.int l), v6, v7, v8, v9, v10] S
      = some (.nx [v0, v1, some (.int g.length), some (chD g s e), v4, some (.int l), w6, v7, w8, v9, v10] S) := by
  obtain ⟨env', S', h1, w6, w8, e1, e2⟩ := forLoop_ind (tg := .var 6) (g := fun (i : Nat) => PyData.int i) (body := bodyF tb (evC tb W (k + 8)) W 1 paT)
    (fun i env S1 => ∃ w6 w8, env = [v0, v1, some (.int g.length), some (chD g s e), v4, some (.int l), w6, v7, w8, v9, v10] ∧ S1 = S) (List.range (l - 1))
    (env := [v0, v1, some (.int g.length), some (chD g s e), v4, some (.int l), v6, v7, v8, v9, v10]) (S := S) ⟨v6, v8, rfl, rfl⟩ (by
      rintro i a env S1 ha ⟨w6, w8, rfl, rfl⟩
      have hm := List.mem_range.mp (List.mem_of_getElem? ha)
      obtain ⟨X, hb⟩ := pa_ok (W := W) G h12 k S1 (l := l) (p := a) (by omega) hl v0 v1 v4 v7 w8 v9 v10
      exact ⟨_, _, _, rfl, .inl hb, ⟨_, _, rfl, rfl⟩⟩)
  subst e1 e2
  refine ⟨w6, w8, ?_⟩
  have el : (l : Int) - 1 = ((l - 1 : Nat) : Int) := by omega
  have hr := rngD_one (show l - 1 < 2 ^ 62 by omega)
  simp -implicitDefEqProofs -dsimp only [bodyF, lnT, bnd_some, bnd_none, mpd_some, mpd_none, cnd_true, cnd_false, e_var, vl_int, vl_bool, vl_none, vl_str, vl_list, vl_tuple, vl_edict, vl_cel, vl_scr, e_int, e_str, e_bl, e_non, e_edict, e_bin, e_neg, e_cmp, e_chain, e_and, e_or, e_not, e_ite, e_tup, e_lst, e_call, e_callk, e_bi, e_mt, e_idx, e_sl, e_slr, e_lc, e_thaw, e_lrng, l_nil, l_cons, o_nil, o_cons, t_nil, t_cons, i_rng, i_cons, s_asg, s_asgm, s_asgi, s_par, s_ex, s_ret, s_retm, s_retn, s_iff, s_forr, s_whl, s_pas, s_brk, s_cnt, b_nil, b_cons, th_nx, th_rt, th_bk, th_ct, List.getElem?_cons_zero, List.getElem?_cons_succ, List.map_cons, List.map_nil, List.cons_append, List.nil_append, List.replicate_succ, List.replicate_zero, if_true, if_false, Bool.false_eq_true, Bool.not_true, Bool.not_false, peek_int, peek_bool, peek_none, peek_str, peek_list, peek_tuple, peek_edict, peek_cel, settle_int, settle_bool, settle_none, settle_str, settle_list, settle_tuple, settle_edict, isTrueD_bool, biD, one, two, kindB, tyD, lenD, intOfD, iiD, sumD, listD, tupleD, binD, addD_int, subD, mulD_int, intD, cmpD, cmpI, isD, isNon, eqD_int, eqD_str, outD_rt, outD_rtt, outD_nx, bindT, List.set_cons_zero, List.set_cons_succ, wipeE, frE, celOf_int, celOf_bool, celOf_none, celOf_str, celOf_list, celOf_tuple, celOf_edict, celOf_cel, Option.isNone_none, Option.isNone_some, Bool.and_true, Bool.true_and, Bool.and_false, Bool.false_and, Bool.or_true, Bool.true_or, Bool.or_false, Bool.false_or, beginD_list, beginD_tuple, unlock_none, unlockO, idxD_list, idxD_tuple, setsE, decide_true, decide_false, List.take_nil, List.length_nil, List.length_cons, mtD, List.set_nil, List.getElem?_nil, Nat.zero_add, decide_eq_true_eq, sb_nil, sb_t, sb_f, sb_e, sa_nil, sa_cons, Nat.reduceSub, Nat.reduceLT, Nat.reduceAdd, Nat.reduceMul, Nat.reduceLeDiff, cnd_and, cnd_or, Option.bind_some, Option.map_some, Option.bind_none, Option.map_none, List.length_map, reduceCtorEq, beq_self_eq_true, eqD_nil, line, Nat.zero_le, ixD_0, ixD_1, ixD_2, ixD_last, Int.reduceEq, Int.reduceLT, Int.reduceLE, Int.reduceNeg, Int.reduceAdd, Int.reduceSub, Int.reduceMul, Nat.reduceEqDiff, Int.cast_ofNat_Int, List.getD_cons_zero, List.getD_cons_succ, el, hr, h1]
theorem ev7 (v0 v1 v4 v5 v6 v7 v8 v9 v10 : Option PyData) :
    ∃ w5 w6 w8, evS tb (evC tb W (k + 8)) W 1 rs7 [v0, v1, some (.int g.length), some (chD g s e), v4, v5, v6, v7, v8, v9, v10] S
      = some (.nx [v0, v1, some (.int g.length), some (chD g s e), v4, w5, w6, v7, w8, v9, v10] S) := by
  obtain ⟨env', S', f1, w5, w6, w8, e1, e2⟩ := forLoop_ind (tg := .var 5) (g := fun (i : Nat) => PyData.int ((i + 2 : Nat) : Int)) (body := bodyF tb (evC tb W (k + 8)) W 1 lnT)
    (fun i env S1 => ∃ w5 w6 w8, env = [v0, v1, some (.int g.length), some (chD g s e), v4, w5, w6, v7, w8, v9, v10] ∧ S1 = S) (List.range 3)
    (env := [v0, v1, some (.int g.length), some (chD g s e), v4, v5, v6, v7, v8, v9, v10]) (S := S) ⟨v5, v6, v8, rfl, rfl⟩ (by
      rintro i a env S1 ha ⟨w5, w6, w8, rfl, rfl⟩
      have hm := List.mem_range.mp (List.mem_of_getElem? ha)
      obtain ⟨x6, x8, hb⟩ := ln_ok (W := W) G h12 k S1 (l := a + 2) (by omega) (by omega) v0 v1 v4 w6 v7 w8 v9 v10
      exact ⟨_, _, _, rfl, .inl hb, ⟨_, _, _, rfl, rfl⟩⟩)
  subst e1 e2
  refine ⟨w5, w6, w8, ?_⟩
  have ei : evI tb (evC tb W (k + 8)) (.cons (.lst (.cons (.int 2) (.cons (.int 3) (.cons (.int 4) .nil)))) .nil) [v0, v1, some (.int g.length), some (chD g s e), v4, v5, v6, v7, v8, v9, v10] S' = some ((List.range 3).map (fun (i : Nat) => PyData.int ((i + 2 : Nat) : Int)), S', none) := rfl
  unfold rs7
  rw [s_forr, ei, bnd_some, f1, mpd_some]
  rfl
theorem ev9 (n : Nat) {gd : PyData} (hG : GenOk n gd) (hn : n < 2 ^ 20) (R : Sto) {l : Nat} (h4 : 4 ≤ l) (hl : l ≤ 100) (v1 v4 v6 v7 v8 v9 v10 : Option PyData) :
    ∃ w6 gd', evS tb (evC tb W (k + 8)) W 1 rs9 [some (cel 0), v1, some (.int g.length), some (chD g s e), v4, some (.int l), v6, v7, v8, v9, v10] ((0, gd) :: R)
      = some (.nx [some (cel 0), v1, some (.int g.length), some (chD g s e), v4, some (.int l), w6, v7, v8, v9, v10] ((0, gd') :: R)) := by
  obtain ⟨r, gd', q1, q2, q3⟩ := cl_random (W := W) (k + 6) (i := 0) (S := (0, gd) :: R) hG rfl (by omega) (l - 1) (by omega) (by omega)
  rw [List.set_cons_zero] at q1
  obtain ⟨r0, r1⟩ := inB_iff.mp q2
  obtain ⟨rn, rfl⟩ : ∃ rn : Nat, r = rn := ⟨r.toNat, by omega⟩
  have e1 : (l : Int) - 1 = ((l - 1 : Nat) : Int) := by omega
  have e2 : (l : Int) - 2 = ((l - 2 : Nat) : Int) := by omega
  obtain ⟨env', S', f1, w6, g1, g2⟩ := forLoop_ind (tg := .var 6) (g := fun (i : Nat) => PyData.int i) (body := bodyF tb (evC tb W (k + 8)) W 1 pb)
    (fun i env S1 => ∃ w6, env = [some (cel 0), v1, some (.int g.length), some (chD g s e), v4, some (.int l), w6, v7, v8, v9, v10] ∧ S1 = (0, gd') :: R) [0, l - 2, rn]
    (env := [some (cel 0), v1, some (.int g.length), some (chD g s e), v4, some (.int l), v6, v7, v8, v9, v10]) (S := (0, gd') :: R) ⟨v6, rfl, rfl⟩ (by
      rintro i p env S1 ha ⟨w6, rfl, rfl⟩
      have hm := List.mem_of_getElem? ha
      have hp : p + 2 ≤ l := by
        simp at hm
        omega
      have c1 := cl_counted (W := W) G h12 (k + 6) l p hp hl ((0, gd') :: R)
      have c3 := cl_how_many_slip (W := W) G h12 k l p hp hl ((0, gd') :: R)
      have rp := reprD_big (slip_log h12 s e hp hl)
      generalize sumI ((swL g).map (term g s e l p)) = X at c1 c3 rp
      refine ⟨[some (cel 0), v1, some (.int g.length), some (chD g s e), v4, some (.int l), some (.int p), v7, v8, v9, v10], _, _, rfl, .inl ?_, ⟨some (.int p), rfl, rfl⟩⟩
      simp -implicitDefEqProofs -dsimp only [bodyF, pb, bnd_some, bnd_none, mpd_some, mpd_none, cnd_true, cnd_false, e_var, vl_int, vl_bool, vl_none, vl_str, vl_list, vl_tuple, vl_edict, vl_cel, vl_scr, e_int, e_str, e_bl, e_non, e_edict, e_bin, e_neg, e_cmp, e_chain, e_and, e_or, e_not, e_ite, e_tup, e_lst, e_call, e_callk, e_bi, e_mt, e_idx, e_sl, e_slr, e_lc, e_thaw, e_lrng, l_nil, l_cons, o_nil, o_cons, t_nil, t_cons, i_rng, i_cons, s_asg, s_asgm, s_asgi, s_par, s_ex, s_ret, s_retm, s_retn, s_iff, s_forr, s_whl, s_pas, s_brk, s_cnt, b_nil, b_cons, th_nx, th_rt, th_bk, th_ct, List.getElem?_cons_zero, List.getElem?_cons_succ, List.map_cons, List.map_nil, List.cons_append, List.nil_append, List.replicate_succ, List.replicate_zero, if_true, if_false, Bool.false_eq_true, Bool.not_true, Bool.not_false, peek_int, peek_bool, peek_none, peek_str, peek_list, peek_tuple, peek_edict, peek_cel, settle_int, settle_bool, settle_none, settle_str, settle_list, settle_tuple, settle_edict, isTrueD_bool, biD, one, two, kindB, tyD, lenD, intOfD, iiD, sumD, listD, tupleD, binD, addD_int, subD, mulD_int, intD, cmpD, cmpI, isD, isNon, eqD_int, eqD_str, outD_rt, outD_rtt, outD_nx, bindT, List.set_cons_zero, List.set_cons_succ, wipeE, frE, celOf_int, celOf_bool, celOf_none, celOf_str, celOf_list, celOf_tuple, celOf_edict, celOf_cel, Option.isNone_none, Option.isNone_some, Bool.and_true, Bool.true_and, Bool.and_false, Bool.false_and, Bool.or_true, Bool.true_or, Bool.or_false, Bool.false_or, beginD_list, beginD_tuple, unlock_none, unlockO, idxD_list, idxD_tuple, setsE, decide_true, decide_false, List.take_nil, List.length_nil, List.length_cons, mtD, List.set_nil, List.getElem?_nil, Nat.zero_add, decide_eq_true_eq, sb_nil, sb_t, sb_f, sb_e, sa_nil, sa_cons, Nat.reduceSub, Nat.reduceLT, Nat.reduceAdd, Nat.reduceMul, Nat.reduceLeDiff, cnd_and, cnd_or, Option.bind_some, Option.map_some, Option.bind_none, Option.map_none, List.length_map, reduceCtorEq, beq_self_eq_true, eqD_nil, line, Nat.zero_le, ixD_0, ixD_1, ixD_2, ixD_last, Int.reduceEq, Int.reduceLT, Int.reduceLE, Int.reduceNeg, Int.reduceAdd, Int.reduceSub, Int.reduceMul, Nat.reduceEqDiff, Int.cast_ofNat_Int, List.getD_cons_zero, List.getD_cons_succ, c1, c3, rp])
  subst g1 g2
  refine ⟨w6, gd', ?_⟩
  have ei : evI tb (evC tb W (k + 8)) (.cons (.lst (.cons (.int 0) (.cons (.bin .sub (.var 5) (.int 2)) (.cons (.call i_law_random [true, false] (.cons (.var 0) (.cons (.bin .sub (.var 5) (.int 1)) .nil))) .nil)))) .nil) [some (cel 0), v1, some (.int g.length), some (chD g s e), v4, some (.int l), v6, v7, v8, v9, v10] ((0, gd) :: R) = some ([0, l - 2, rn].map (fun (i : Nat) => PyData.int i), (0, gd') :: R, none) := by
    simp -implicitDefEqProofs -dsimp only [bnd_some, bnd_none, mpd_some, mpd_none, cnd_true, cnd_false, e_var, vl_int, vl_bool, vl_none, vl_str, vl_list, vl_tuple, vl_edict, vl_cel, vl_scr, e_int, e_str, e_bl, e_non, e_edict, e_bin, e_neg, e_cmp, e_chain, e_and, e_or, e_not, e_ite, e_tup, e_lst, e_call, e_callk, e_bi, e_mt, e_idx, e_sl, e_slr, e_lc, e_thaw, e_lrng, l_nil, l_cons, o_nil, o_cons, t_nil, t_cons, i_rng, i_cons, s_asg, s_asgm, s_asgi, s_par, s_ex, s_ret, s_retm, s_retn, s_iff, s_forr, s_whl, s_pas, s_brk, s_cnt, b_nil, b_cons, th_nx, th_rt, th_bk, th_ct, List.getElem?_cons_zero, List.getElem?_cons_succ, List.map_cons, List.map_nil, List.cons_append, List.nil_append, List.replicate_succ, List.replicate_zero, if_true, if_false, Bool.false_eq_true, Bool.not_true, Bool.not_false, peek_int, peek_bool, peek_none, peek_str, peek_list, peek_tuple, peek_edict, peek_cel, settle_int, settle_bool, settle_none, settle_str, settle_list, settle_tuple, settle_edict, isTrueD_bool, biD, one, two, kindB, tyD, lenD, intOfD, iiD, sumD, listD, tupleD, binD, addD_int, subD, mulD_int, intD, cmpD, cmpI, isD, isNon, eqD_int, eqD_str, outD_rt, outD_rtt, outD_nx, bindT, List.set_cons_zero, List.set_cons_succ, wipeE, frE, celOf_int, celOf_bool, celOf_none, celOf_str, celOf_list, celOf_tuple, celOf_edict, celOf_cel, Option.isNone_none, Option.isNone_some, Bool.and_true, Bool.true_and, Bool.and_false, Bool.false_and, Bool.or_true, Bool.true_or, Bool.or_false, Bool.false_or, beginD_list, beginD_tuple, unlock_none, unlockO, idxD_list, idxD_tuple, setsE, decide_true, decide_false, List.take_nil, List.length_nil, List.length_cons, mtD, List.set_nil, List.getElem?_nil, Nat.zero_add, decide_eq_true_eq, sb_nil, sb_t, sb_f, sb_e, sa_nil, sa_cons, Nat.reduceSub, Nat.reduceLT, Nat.reduceAdd, Nat.reduceMul, Nat.reduceLeDiff, cnd_and, cnd_or, Option.bind_some, Option.map_some, Option.bind_none, Option.map_none, List.length_map, reduceCtorEq, beq_self_eq_true, eqD_nil, line, Nat.zero_le, ixD_0, ixD_1, ixD_2, ixD_last, Int.reduceEq, Int.reduceLT, Int.reduceLE, Int.reduceNeg, Int.reduceAdd, Int.reduceSub, Int.reduceMul, Nat.reduceEqDiff, Int.cast_ofNat_Int, List.getD_cons_zero, List.getD_cons_succ, e1, e2, q1]
    try rfl
  unfold rs9
  rw [s_forr, ei, bnd_some, f1, mpd_some]
  rfl
theorem ev10_12 {l : Nat} (h4 : 4 ≤ l) (hl : l ≤ 100) (v0 v6 v7 v8 v9 v10 : Option PyData) :
    ∃ w7, evS tb (evC tb W (k + 8)) W 1 rs10 [v0, some (gD g), some (.int g.length), some (chD g s e), some (.str (chD g s e).shown), some (.int l), v6, v7, v8, v9, v10] S
      = some (.nx [v0, some (gD g), some (.int g.length), some (chD g s e), some (.str (chD g s e).shown), some (.int l), v6, w7, v8, v9, v10] S)
    ∧ evS tb (evC tb W (k + 8)) W 1 rs11 [v0, some (gD g), some (.int g.length), some (chD g s e), some (.str (chD g s e).shown), some (.int l), v6, w7, v8, v9, v10] S
      = some (.nx [v0, some (gD g), some (.int g.length), some (chD g s e), some (.str (chD g s e).shown), some (.int l), v6, w7, v8, v9, v10] S)
    ∧ evS tb (evC tb W (k + 8)) W 1 rs12 [v0, some (gD g), some (.int g.length), some (chD g s e), some (.str (chD g s e).shown), some (.int l), v6, w7, v8, v9, v10] S
      = some (.rt (.bool true) false S) := by
  obtain ⟨X, hX⟩ : ∃ X, X = 2 * ((swL g).length : Int) * (g.length : Int) ^ (l - 4) := ⟨_, rfl⟩
  have e2 : (l : Int) - 2 = ((l - 2 : Nat) : Int) := by omega
  have e4 : (l : Int) - 4 = ((l - 4 : Nat) : Int) := by omega
  have e1 : (l : Int) - 1 = ((l - 1 : Nat) : Int) := by omega
  have hr : rngD [.int 1, .int ((l - 2 : Nat) : Int)] = some ((List.range (l - 3)).map fun (j : Nat) => PyData.int (1 + j)) := by
    rw [rngD_two (show 1 ≤ l - 2 by omega) (by omega), show l - 2 - 1 = l - 3 by omega]; rfl
  have hlc := lcLoop_all (one := lcOne tb (evC tb W (k + 8)) [v0, some (gD g), some (.int g.length), some (chD g s e), some (.str (chD g s e).shown), some (.int l), v6, v7, v8, v9, v10] [6] (.var 6) .nil (.call i_how_many_slip [] (.cons (.var 3) (.cons (.var 5) (.cons (.var 6) .nil))))) (f := fun (j : Nat) => PyData.int (1 + j)) (g := fun (_ : Nat) => PyData.int X) (S := S) (List.range (l - 3)) (fun j hj => by
    have hj := List.mem_range.mp hj
    have c3 := cl_how_many_slip (W := W) G h12 k l (1 + j) (by omega) hl S
    rw [sum_inner s e (by omega) (by omega), ← hX, show ((1 + j : Nat) : Int) = 1 + (j : Int) by omega] at c3
    simp -implicitDefEqProofs -dsimp only [lcOne, bnd_some, bnd_none, mpd_some, mpd_none, cnd_true, cnd_false, e_var, vl_int, vl_bool, vl_none, vl_str, vl_list, vl_tuple, vl_edict, vl_cel, vl_scr, e_int, e_str, e_bl, e_non, e_edict, e_bin, e_neg, e_cmp, e_chain, e_and, e_or, e_not, e_ite, e_tup, e_lst, e_call, e_callk, e_bi, e_mt, e_idx, e_sl, e_slr, e_lc, e_thaw, e_lrng, l_nil, l_cons, o_nil, o_cons, t_nil, t_cons, i_rng, i_cons, s_asg, s_asgm, s_asgi, s_par, s_ex, s_ret, s_retm, s_retn, s_iff, s_forr, s_whl, s_pas, s_brk, s_cnt, b_nil, b_cons, th_nx, th_rt, th_bk, th_ct, List.getElem?_cons_zero, List.getElem?_cons_succ, List.map_cons, List.map_nil, List.cons_append, List.nil_append, List.replicate_succ, List.replicate_zero, if_true, if_false, Bool.false_eq_true, Bool.not_true, Bool.not_false, peek_int, peek_bool, peek_none, peek_str, peek_list, peek_tuple, peek_edict, peek_cel, settle_int, settle_bool, settle_none, settle_str, settle_list, settle_tuple, settle_edict, isTrueD_bool, biD, one, two, kindB, tyD, lenD, intOfD, iiD, sumD, listD, tupleD, binD, addD_int, subD, mulD_int, intD, cmpD, cmpI, isD, isNon, eqD_int, eqD_str, outD_rt, outD_rtt, outD_nx, bindT, List.set_cons_zero, List.set_cons_succ, wipeE, frE, celOf_int, celOf_bool, celOf_none, celOf_str, celOf_list, celOf_tuple, celOf_edict, celOf_cel, Option.isNone_none, Option.isNone_some, Bool.and_true, Bool.true_and, Bool.and_false, Bool.false_and, Bool.or_true, Bool.true_or, Bool.or_false, Bool.false_or, beginD_list, beginD_tuple, unlock_none, unlockO, idxD_list, idxD_tuple, setsE, decide_true, decide_false, List.take_nil, List.length_nil, List.length_cons, mtD, List.set_nil, List.getElem?_nil, Nat.zero_add, decide_eq_true_eq, sb_nil, sb_t, sb_f, sb_e, sa_nil, sa_cons, Nat.reduceSub, Nat.reduceLT, Nat.reduceAdd, Nat.reduceMul, Nat.reduceLeDiff, cnd_and, cnd_or, Option.bind_some, Option.map_some, Option.bind_none, Option.map_none, List.length_map, reduceCtorEq, beq_self_eq_true, eqD_nil, line, Nat.zero_le, ixD_0, ixD_1, ixD_2, ixD_last, Int.reduceEq, Int.reduceLT, Int.reduceLE, Int.reduceNeg, Int.reduceAdd, Int.reduceSub, Int.reduceMul, Nat.reduceEqDiff, Int.cast_ofNat_Int, List.getD_cons_zero, List.getD_cons_succ, c3]) (by rw [List.length_range]; exact le_line (by omega))
  have e0 : (List.range (l - 3)).map (fun (_ : Nat) => PyData.int X) = (List.replicate (l - 3) X).map PyData.int := by
    apply List.ext_getElem
    · simp
    · intro i h1 h2
      simp
  rw [e0] at hlc
  refine ⟨some (iL (List.replicate (l - 3) X)), ?_, ?_, ?_⟩
  · unfold rs10
    simp -implicitDefEqProofs -dsimp only [bnd_some, bnd_none, mpd_some, mpd_none, cnd_true, cnd_false, e_var, vl_int, vl_bool, vl_none, vl_str, vl_list, vl_tuple, vl_edict, vl_cel, vl_scr, e_int, e_str, e_bl, e_non, e_edict, e_bin, e_neg, e_cmp, e_chain, e_and, e_or, e_not, e_ite, e_tup, e_lst, e_call, e_callk, e_bi, e_mt, e_idx, e_sl, e_slr, e_lc, e_thaw, e_lrng, l_nil, l_cons, o_nil, o_cons, t_nil, t_cons, i_rng, i_cons, s_asg, s_asgm, s_asgi, s_par, s_ex, s_ret, s_retm, s_retn, s_iff, s_forr, s_whl, s_pas, s_brk, s_cnt, b_nil, b_cons, th_nx, th_rt, th_bk, th_ct, List.getElem?_cons_zero, List.getElem?_cons_succ, List.map_cons, List.map_nil, List.cons_append, List.nil_append, List.replicate_succ, List.replicate_zero, if_true, if_false, Bool.false_eq_true, Bool.not_true, Bool.not_false, peek_int, peek_bool, peek_none, peek_str, peek_list, peek_tuple, peek_edict, peek_cel, settle_int, settle_bool, settle_none, settle_str, settle_list, settle_tuple, settle_edict, isTrueD_bool, biD, one, two, kindB, tyD, lenD, intOfD, iiD, sumD, listD, tupleD, binD, addD_int, subD, mulD_int, intD, cmpD, cmpI, isD, isNon, eqD_int, eqD_str, outD_rt, outD_rtt, outD_nx, bindT, List.set_cons_zero, List.set_cons_succ, wipeE, frE, celOf_int, celOf_bool, celOf_none, celOf_str, celOf_list, celOf_tuple, celOf_edict, celOf_cel, Option.isNone_none, Option.isNone_some, Bool.and_true, Bool.true_and, Bool.and_false, Bool.false_and, Bool.or_true, Bool.true_or, Bool.or_false, Bool.false_or, beginD_list, beginD_tuple, unlock_none, unlockO, idxD_list, idxD_tuple, setsE, decide_true, decide_false, List.take_nil, List.length_nil, List.length_cons, mtD, List.set_nil, List.getElem?_nil, Nat.zero_add, decide_eq_true_eq, sb_nil, sb_t, sb_f, sb_e, sa_nil, sa_cons, Nat.reduceSub, Nat.reduceLT, Nat.reduceAdd, Nat.reduceMul, Nat.reduceLeDiff, cnd_and, cnd_or, Option.bind_some, Option.map_some, Option.bind_none, Option.map_none, List.length_map, reduceCtorEq, beq_self_eq_true, eqD_nil, line, Nat.zero_le, ixD_0, ixD_1, ixD_2, ixD_last, Int.reduceEq, Int.reduceLT, Int.reduceLE, Int.reduceNeg, Int.reduceAdd, Int.reduceSub, Int.reduceMul, Nat.reduceEqDiff, Int.cast_ofNat_Int, List.getD_cons_zero, List.getD_cons_succ, e2, hr, hlc]
  · have ls := lenSetD_iL (ns := List.replicate (l - 3) X) (by simp; omega)
    rw [show l - 3 = l - 4 + 1 by omega, met_rep] at ls
    have ix : ixD (List.replicate (l - 4 + 1) X).length 0 = some 0 := by rw [List.length_replicate]; exact ixD_0 _
    have g0 : ((List.replicate (l - 4 + 1) X).map PyData.int)[0]? = some (.int X) := rfl
    have c1 := cl_counted (W := W) G h12 (k + 6) l 1 (by omega) hl S
    rw [sum_inner s e (by omega) (by omega), ← hX] at c1
    have c1 : callD (evC tb W (k + 8)) i_law_counted [chD g s e, .int l, .int 1] S = some (.int X, S) := c1
    have c2 := cl_law_swaps (W := W) G.toLat h12 (k + 7) S
    have c4 := cl_power (W := W) (k + 7) g.length (l - 4) G.few (by omega) S
    have m1 : mulOk 2 ((swL g).length : Int) = true := mulOk_l rfl
    have m2 : mulOk (2 * ((swL g).length : Int)) ((g.length : Int) ^ (l - 4)) = true := mulOk_l (small_of (by omega) (by have := swL_len h12; omega))
    rw [show l - 3 = l - 4 + 1 by omega]
    generalize List.replicate (l - 4 + 1) X = rl at ls ix g0 ⊢
    have ls : lenSetD (iL rl) = some (.int 1) := ls
    unfold rs11
    simp -implicitDefEqProofs -dsimp only [bnd_some, bnd_none, mpd_some, mpd_none, cnd_true, cnd_false, e_var, vl_int, vl_bool, vl_none, vl_str, vl_list, vl_tuple, vl_edict, vl_cel, vl_scr, e_int, e_str, e_bl, e_non, e_edict, e_bin, e_neg, e_cmp, e_chain, e_and, e_or, e_not, e_ite, e_tup, e_lst, e_call, e_callk, e_bi, e_mt, e_idx, e_sl, e_slr, e_lc, e_thaw, e_lrng, l_nil, l_cons, o_nil, o_cons, t_nil, t_cons, i_rng, i_cons, s_asg, s_asgm, s_asgi, s_par, s_ex, s_ret, s_retm, s_retn, s_iff, s_forr, s_whl, s_pas, s_brk, s_cnt, b_nil, b_cons, th_nx, th_rt, th_bk, th_ct, List.getElem?_cons_zero, List.getElem?_cons_succ, List.map_cons, List.map_nil, List.cons_append, List.nil_append, List.replicate_succ, List.replicate_zero, if_true, if_false, Bool.false_eq_true, Bool.not_true, Bool.not_false, peek_int, peek_bool, peek_none, peek_str, peek_list, peek_tuple, peek_edict, peek_cel, settle_int, settle_bool, settle_none, settle_str, settle_list, settle_tuple, settle_edict, isTrueD_bool, biD, one, two, kindB, tyD, lenD, intOfD, iiD, sumD, listD, tupleD, binD, addD_int, subD, mulD_int, intD, cmpD, cmpI, isD, isNon, eqD_int, eqD_str, outD_rt, outD_rtt, outD_nx, bindT, List.set_cons_zero, List.set_cons_succ, wipeE, frE, celOf_int, celOf_bool, celOf_none, celOf_str, celOf_list, celOf_tuple, celOf_edict, celOf_cel, Option.isNone_none, Option.isNone_some, Bool.and_true, Bool.true_and, Bool.and_false, Bool.false_and, Bool.or_true, Bool.true_or, Bool.or_false, Bool.false_or, beginD_list, beginD_tuple, unlock_none, unlockO, idxD_list, idxD_tuple, setsE, decide_true, decide_false, List.take_nil, List.length_nil, List.length_cons, mtD, List.set_nil, List.getElem?_nil, Nat.zero_add, decide_eq_true_eq, sb_nil, sb_t, sb_f, sb_e, sa_nil, sa_cons, Nat.reduceSub, Nat.reduceLT, Nat.reduceAdd, Nat.reduceMul, Nat.reduceLeDiff, cnd_and, cnd_or, Option.bind_some, Option.map_some, Option.bind_none, Option.map_none, List.length_map, reduceCtorEq, beq_self_eq_true, eqD_nil, line, Nat.zero_le, ixD_0, ixD_1, ixD_2, ixD_last, Int.reduceEq, Int.reduceLT, Int.reduceLE, Int.reduceNeg, Int.reduceAdd, Int.reduceSub, Int.reduceMul, Nat.reduceEqDiff, Int.cast_ofNat_Int, List.getD_cons_zero, List.getD_cons_succ, ls, ix, g0, c1, c2, e4, c4, m1, m2, ← hX]
  · have rp := ch_repr G h12
    have c5 := cl_how_many (W := W) G k (l - 1) (by omega) S
    rw [show l - 1 + 1 = l by omega] at c5
    have c6 := cl_power (W := W) (k + 7) g.length (l - 1) G.few (by omega) S
    unfold rs12
    simp -implicitDefEqProofs -dsimp only [bnd_some, bnd_none, mpd_some, mpd_none, cnd_true, cnd_false, e_var, vl_int, vl_bool, vl_none, vl_str, vl_list, vl_tuple, vl_edict, vl_cel, vl_scr, e_int, e_str, e_bl, e_non, e_edict, e_bin, e_neg, e_cmp, e_chain, e_and, e_or, e_not, e_ite, e_tup, e_lst, e_call, e_callk, e_bi, e_mt, e_idx, e_sl, e_slr, e_lc, e_thaw, e_lrng, l_nil, l_cons, o_nil, o_cons, t_nil, t_cons, i_rng, i_cons, s_asg, s_asgm, s_asgi, s_par, s_ex, s_ret, s_retm, s_retn, s_iff, s_forr, s_whl, s_pas, s_brk, s_cnt, b_nil, b_cons, th_nx, th_rt, th_bk, th_ct, List.getElem?_cons_zero, List.getElem?_cons_succ, List.map_cons, List.map_nil, List.cons_append, List.nil_append, List.replicate_succ, List.replicate_zero, if_true, if_false, Bool.false_eq_true, Bool.not_true, Bool.not_false, peek_int, peek_bool, peek_none, peek_str, peek_list, peek_tuple, peek_edict, peek_cel, settle_int, settle_bool, settle_none, settle_str, settle_list, settle_tuple, settle_edict, isTrueD_bool, biD, one, two, kindB, tyD, lenD, intOfD, iiD, sumD, listD, tupleD, binD, addD_int, subD, mulD_int, intD, cmpD, cmpI, isD, isNon, eqD_int, eqD_str, outD_rt, outD_rtt, outD_nx, bindT, List.set_cons_zero, List.set_cons_succ, wipeE, frE, celOf_int, celOf_bool, celOf_none, celOf_str, celOf_list, celOf_tuple, celOf_edict, celOf_cel, Option.isNone_none, Option.isNone_some, Bool.and_true, Bool.true_and, Bool.and_false, Bool.false_and, Bool.or_true, Bool.true_or, Bool.or_false, Bool.false_or, beginD_list, beginD_tuple, unlock_none, unlockO, idxD_list, idxD_tuple, setsE, decide_true, decide_false, List.take_nil, List.length_nil, List.length_cons, mtD, List.set_nil, List.getElem?_nil, Nat.zero_add, decide_eq_true_eq, sb_nil, sb_t, sb_f, sb_e, sa_nil, sa_cons, Nat.reduceSub, Nat.reduceLT, Nat.reduceAdd, Nat.reduceMul, Nat.reduceLeDiff, cnd_and, cnd_or, Option.bind_some, Option.map_some, Option.bind_none, Option.map_none, List.length_map, reduceCtorEq, beq_self_eq_true, eqD_nil, line, Nat.zero_le, ixD_0, ixD_1, ixD_2, ixD_last, Int.reduceEq, Int.reduceLT, Int.reduceLE, Int.reduceNeg, Int.reduceAdd, Int.reduceSub, Int.reduceMul, Nat.reduceEqDiff, Int.cast_ofNat_Int, List.getD_cons_zero, List.getD_cons_succ, rp, c5, e1, c6]
    try rfl
end
def t4L : List (List Int) := (List.range 4).map fun (i : Nat) => (List.range 4).map fun (j : Nat) => (3 * (i : Int) + j) % 4
theorem ev_four (k : Nat) (v0 v1 v2 v3 v4 v5 v6 v7 v8 v9 v10 : Option PyData) (S : Sto) : evE tb (evC tb W k) fourT [v0, v1, v2, v3, v4, v5, v6, v7, v8, v9, v10] S = some (gD t4L, S) := by kernel_rfl
theorem fine_four : Fine t4L := fine_of (by decide +kernel)
theorem ev_right (k n : Nat) {gd : PyData} (hG : GenOk n gd) (hn : n < 2 ^ 18) (hW : 200 ≤ W) :
    ∃ gd', evC tb W (k + 9) i_law_right [cel 0] [(0, gd)] = some (.bool true, [(0, gd')]) := by
  rw [evC_run (fn := f_law_right) rfl rfl]
  show ∃ gd', bnd (evB tb (evC tb W (k + 8)) W 1 t_law_right [some (cel 0), none, none, none, none, none, none, none, none, none, none] [(0, gd)]) (outD 1 false) _ = _
  rw [right_t]
  obtain ⟨g0, g1, a1, F0, a3⟩ := cl_square_r (W := W) (k + 2) (i := 0) (S := [(0, gd)]) hG rfl (by omega) hW
  rw [List.set_cons_zero] at a1
  have t1 : evS tb (evC tb W (k + 8)) W 1 rs1 [some (cel 0), none, none, none, none, none, none, none, none, none, none] [(0, gd)] = some (.nx [some (cel 0), some (gD g0), none, none, none, none, none, none, none, none, none] [(0, g1)]) := by
    unfold gridD at a1
    unfold rs1
    simp -implicitDefEqProofs -dsimp only [bnd_some, bnd_none, mpd_some, mpd_none, cnd_true, cnd_false, e_var, vl_int, vl_bool, vl_none, vl_str, vl_list, vl_tuple, vl_edict, vl_cel, vl_scr, e_int, e_str, e_bl, e_non, e_edict, e_bin, e_neg, e_cmp, e_chain, e_and, e_or, e_not, e_ite, e_tup, e_lst, e_call, e_callk, e_bi, e_mt, e_idx, e_sl, e_slr, e_lc, e_thaw, e_lrng, l_nil, l_cons, o_nil, o_cons, t_nil, t_cons, i_rng, i_cons, s_asg, s_asgm, s_asgi, s_par, s_ex, s_ret, s_retm, s_retn, s_iff, s_forr, s_whl, s_pas, s_brk, s_cnt, b_nil, b_cons, th_nx, th_rt, th_bk, th_ct, List.getElem?_cons_zero, List.getElem?_cons_succ, List.map_cons, List.map_nil, List.cons_append, List.nil_append, List.replicate_succ, List.replicate_zero, if_true, if_false, Bool.false_eq_true, Bool.not_true, Bool.not_false, peek_int, peek_bool, peek_none, peek_str, peek_list, peek_tuple, peek_edict, peek_cel, settle_int, settle_bool, settle_none, settle_str, settle_list, settle_tuple, settle_edict, isTrueD_bool, biD, one, two, kindB, tyD, lenD, intOfD, iiD, sumD, listD, tupleD, binD, addD_int, subD, mulD_int, intD, cmpD, cmpI, isD, isNon, eqD_int, eqD_str, outD_rt, outD_rtt, outD_nx, bindT, List.set_cons_zero, List.set_cons_succ, wipeE, frE, celOf_int, celOf_bool, celOf_none, celOf_str, celOf_list, celOf_tuple, celOf_edict, celOf_cel, Option.isNone_none, Option.isNone_some, Bool.and_true, Bool.true_and, Bool.and_false, Bool.false_and, Bool.or_true, Bool.true_or, Bool.or_false, Bool.false_or, beginD_list, beginD_tuple, unlock_none, unlockO, idxD_list, idxD_tuple, setsE, decide_true, decide_false, List.take_nil, List.length_nil, List.length_cons, mtD, List.set_nil, List.getElem?_nil, Nat.zero_add, decide_eq_true_eq, sb_nil, sb_t, sb_f, sb_e, sa_nil, sa_cons, Nat.reduceSub, Nat.reduceLT, Nat.reduceAdd, Nat.reduceMul, Nat.reduceLeDiff, cnd_and, cnd_or, Option.bind_some, Option.map_some, Option.bind_none, Option.map_none, List.length_map, reduceCtorEq, beq_self_eq_true, eqD_nil, line, Nat.zero_le, ixD_0, ixD_1, ixD_2, ixD_last, Int.reduceEq, Int.reduceLT, Int.reduceLE, Int.reduceNeg, Int.reduceAdd, Int.reduceSub, Int.reduceMul, Nat.reduceEqDiff, Int.cast_ofNat_Int, List.getD_cons_zero, List.getD_cons_succ, a1]
  obtain ⟨gb, Fb, t2⟩ : ∃ gb, Fine gb ∧ evS tb (evC tb W (k + 8)) W 1 rs2 [some (cel 0), some (gD g0), none, none, none, none, none, none, none, none, none] [(0, g1)] = some (.nx [some (cel 0), some (gD gb), none, none, none, none, none, none, none, none, none] [(0, g1)]) := by
    have e4 := ev_four (W := W) (k + 8) (some (cel 0)) (some (gD g0)) none none none none none none none none none [(0, g1)]
    cases h : decide ((7 : Int) < (g0.length : Int)) with
    | true =>
      refine ⟨t4L, fine_four, ?_⟩
      unfold rs2
      simp -implicitDefEqProofs -dsimp only [bnd_some, bnd_none, mpd_some, mpd_none, cnd_true, cnd_false, e_var, vl_int, vl_bool, vl_none, vl_str, vl_list, vl_tuple, vl_edict, vl_cel, vl_scr, e_int, e_str, e_bl, e_non, e_edict, e_bin, e_neg, e_cmp, e_chain, e_and, e_or, e_not, e_ite, e_tup, e_lst, e_call, e_callk, e_bi, e_mt, e_idx, e_sl, e_slr, e_lc, e_thaw, e_lrng, l_nil, l_cons, o_nil, o_cons, t_nil, t_cons, i_rng, i_cons, s_asg, s_asgm, s_asgi, s_par, s_ex, s_ret, s_retm, s_retn, s_iff, s_forr, s_whl, s_pas, s_brk, s_cnt, b_nil, b_cons, th_nx, th_rt, th_bk, th_ct, List.getElem?_cons_zero, List.getElem?_cons_succ, List.map_cons, List.map_nil, List.cons_append, List.nil_append, List.replicate_succ, List.replicate_zero, if_true, if_false, Bool.false_eq_true, Bool.not_true, Bool.not_false, peek_int, peek_bool, peek_none, peek_str, peek_list, peek_tuple, peek_edict, peek_cel, settle_int, settle_bool, settle_none, settle_str, settle_list, settle_tuple, settle_edict, isTrueD_bool, biD, one, two, kindB, tyD, lenD, intOfD, iiD, sumD, listD, tupleD, binD, addD_int, subD, mulD_int, intD, cmpD, cmpI, isD, isNon, eqD_int, eqD_str, outD_rt, outD_rtt, outD_nx, bindT, List.set_cons_zero, List.set_cons_succ, wipeE, frE, celOf_int, celOf_bool, celOf_none, celOf_str, celOf_list, celOf_tuple, celOf_edict, celOf_cel, Option.isNone_none, Option.isNone_some, Bool.and_true, Bool.true_and, Bool.and_false, Bool.false_and, Bool.or_true, Bool.true_or, Bool.or_false, Bool.false_or, beginD_list, beginD_tuple, unlock_none, unlockO, idxD_list, idxD_tuple, setsE, decide_true, decide_false, List.take_nil, List.length_nil, List.length_cons, mtD, List.set_nil, List.getElem?_nil, Nat.zero_add, decide_eq_true_eq, sb_nil, sb_t, sb_f, sb_e, sa_nil, sa_cons, Nat.reduceSub, Nat.reduceLT, Nat.reduceAdd, Nat.reduceMul, Nat.reduceLeDiff, cnd_and, cnd_or, Option.bind_some, Option.map_some, Option.bind_none, Option.map_none, List.length_map, reduceCtorEq, beq_self_eq_true, eqD_nil, line, Nat.zero_le, ixD_0, ixD_1, ixD_2, ixD_last, Int.reduceEq, Int.reduceLT, Int.reduceLE, Int.reduceNeg, Int.reduceAdd, Int.reduceSub, Int.reduceMul, Nat.reduceEqDiff, Int.cast_ofNat_Int, List.getD_cons_zero, List.getD_cons_succ, h, e4]
    | false =>
      refine ⟨g0, F0, ?_⟩
      unfold rs2
      simp -implicitDefEqProofs -dsimp only [bnd_some, bnd_none, mpd_some, mpd_none, cnd_true, cnd_false, e_var, vl_int, vl_bool, vl_none, vl_str, vl_list, vl_tuple, vl_edict, vl_cel, vl_scr, e_int, e_str, e_bl, e_non, e_edict, e_bin, e_neg, e_cmp, e_chain, e_and, e_or, e_not, e_ite, e_tup, e_lst, e_call, e_callk, e_bi, e_mt, e_idx, e_sl, e_slr, e_lc, e_thaw, e_lrng, l_nil, l_cons, o_nil, o_cons, t_nil, t_cons, i_rng, i_cons, s_asg, s_asgm, s_asgi, s_par, s_ex, s_ret, s_retm, s_retn, s_iff, s_forr, s_whl, s_pas, s_brk, s_cnt, b_nil, b_cons, th_nx, th_rt, th_bk, th_ct, List.getElem?_cons_zero, List.getElem?_cons_succ, List.map_cons, List.map_nil, List.cons_append, List.nil_append, List.replicate_succ, List.replicate_zero, if_true, if_false, Bool.false_eq_true, Bool.not_true, Bool.not_false, peek_int, peek_bool, peek_none, peek_str, peek_list, peek_tuple, peek_edict, peek_cel, settle_int, settle_bool, settle_none, settle_str, settle_list, settle_tuple, settle_edict, isTrueD_bool, biD, one, two, kindB, tyD, lenD, intOfD, iiD, sumD, listD, tupleD, binD, addD_int, subD, mulD_int, intD, cmpD, cmpI, isD, isNon, eqD_int, eqD_str, outD_rt, outD_rtt, outD_nx, bindT, List.set_cons_zero, List.set_cons_succ, wipeE, frE, celOf_int, celOf_bool, celOf_none, celOf_str, celOf_list, celOf_tuple, celOf_edict, celOf_cel, Option.isNone_none, Option.isNone_some, Bool.and_true, Bool.true_and, Bool.and_false, Bool.false_and, Bool.or_true, Bool.true_or, Bool.or_false, Bool.false_or, beginD_list, beginD_tuple, unlock_none, unlockO, idxD_list, idxD_tuple, setsE, decide_true, decide_false, List.take_nil, List.length_nil, List.length_cons, mtD, List.set_nil, List.getElem?_nil, Nat.zero_add, decide_eq_true_eq, sb_nil, sb_t, sb_f, sb_e, sa_nil, sa_cons, Nat.reduceSub, Nat.reduceLT, Nat.reduceAdd, Nat.reduceMul, Nat.reduceLeDiff, cnd_and, cnd_or, Option.bind_some, Option.map_some, Option.bind_none, Option.map_none, List.length_map, reduceCtorEq, beq_self_eq_true, eqD_nil, line, Nat.zero_le, ixD_0, ixD_1, ixD_2, ixD_last, Int.reduceEq, Int.reduceLT, Int.reduceLE, Int.reduceNeg, Int.reduceAdd, Int.reduceSub, Int.reduceMul, Nat.reduceEqDiff, Int.cast_ofNat_Int, List.getD_cons_zero, List.getD_cons_succ, h]
  obtain ⟨w, g2, b1, b2, b3⟩ := cl_random (W := W) (k + 6) (i := 0) (S := [(0, g1)]) a3 rfl (by omega) 3 (by omega) (by omega)
  rw [List.set_cons_zero] at b1
  have b1 : callD (evC tb W (k + 8)) i_law_random [cel 0, .int 3] [(0, g1)] = some (.int w, [(0, g2)]) := b1
  obtain ⟨g, g3, F, t3, d3⟩ : ∃ g g3, Fine g ∧ evS tb (evC tb W (k + 8)) W 1 rs3 [some (cel 0), some (gD gb), none, none, none, none, none, none, none, none, none] [(0, g1)] = some (.nx [some (cel 0), some (gD g), none, none, none, none, none, none, none, none, none] [(0, g3)]) ∧ GenOk (n + 200) g3 := by
    cases h : decide (w = 0) with
    | true =>
      obtain ⟨gu, g3, u1, u2, u3, u4⟩ := cl_uneven (W := W) (k + 4) (i := 0) (S := [(0, g2)]) b3 rfl (by omega) hW
      rw [List.set_cons_zero] at u1
      refine ⟨gu, g3, u2, ?_, u4.mono (by omega)⟩
      unfold rs3
      simp -implicitDefEqProofs -dsimp only [bnd_some, bnd_none, mpd_some, mpd_none, cnd_true, cnd_false, e_var, vl_int, vl_bool, vl_none, vl_str, vl_list, vl_tuple, vl_edict, vl_cel, vl_scr, e_int, e_str, e_bl, e_non, e_edict, e_bin, e_neg, e_cmp, e_chain, e_and, e_or, e_not, e_ite, e_tup, e_lst, e_call, e_callk, e_bi, e_mt, e_idx, e_sl, e_slr, e_lc, e_thaw, e_lrng, l_nil, l_cons, o_nil, o_cons, t_nil, t_cons, i_rng, i_cons, s_asg, s_asgm, s_asgi, s_par, s_ex, s_ret, s_retm, s_retn, s_iff, s_forr, s_whl, s_pas, s_brk, s_cnt, b_nil, b_cons, th_nx, th_rt, th_bk, th_ct, List.getElem?_cons_zero, List.getElem?_cons_succ, List.map_cons, List.map_nil, List.cons_append, List.nil_append, List.replicate_succ, List.replicate_zero, if_true, if_false, Bool.false_eq_true, Bool.not_true, Bool.not_false, peek_int, peek_bool, peek_none, peek_str, peek_list, peek_tuple, peek_edict, peek_cel, settle_int, settle_bool, settle_none, settle_str, settle_list, settle_tuple, settle_edict, isTrueD_bool, biD, one, two, kindB, tyD, lenD, intOfD, iiD, sumD, listD, tupleD, binD, addD_int, subD, mulD_int, intD, cmpD, cmpI, isD, isNon, eqD_int, eqD_str, outD_rt, outD_rtt, outD_nx, bindT, List.set_cons_zero, List.set_cons_succ, wipeE, frE, celOf_int, celOf_bool, celOf_none, celOf_str, celOf_list, celOf_tuple, celOf_edict, celOf_cel, Option.isNone_none, Option.isNone_some, Bool.and_true, Bool.true_and, Bool.and_false, Bool.false_and, Bool.or_true, Bool.true_or, Bool.or_false, Bool.false_or, beginD_list, beginD_tuple, unlock_none, unlockO, idxD_list, idxD_tuple, setsE, decide_true, decide_false, List.take_nil, List.length_nil, List.length_cons, mtD, List.set_nil, List.getElem?_nil, Nat.zero_add, decide_eq_true_eq, sb_nil, sb_t, sb_f, sb_e, sa_nil, sa_cons, Nat.reduceSub, Nat.reduceLT, Nat.reduceAdd, Nat.reduceMul, Nat.reduceLeDiff, cnd_and, cnd_or, Option.bind_some, Option.map_some, Option.bind_none, Option.map_none, List.length_map, reduceCtorEq, beq_self_eq_true, eqD_nil, line, Nat.zero_le, ixD_0, ixD_1, ixD_2, ixD_last, Int.reduceEq, Int.reduceLT, Int.reduceLE, Int.reduceNeg, Int.reduceAdd, Int.reduceSub, Int.reduceMul, Nat.reduceEqDiff, Int.cast_ofNat_Int, List.getD_cons_zero, List.getD_cons_succ, b1, h, u1]
    | false =>
      refine ⟨gb, g2, Fb, ?_, b3.mono (by omega)⟩
      unfold rs3
      simp -implicitDefEqProofs -dsimp only [bnd_some, bnd_none, mpd_some, mpd_none, cnd_true, cnd_false, e_var, vl_int, vl_bool, vl_none, vl_str, vl_list, vl_tuple, vl_edict, vl_cel, vl_scr, e_int, e_str, e_bl, e_non, e_edict, e_bin, e_neg, e_cmp, e_chain, e_and, e_or, e_not, e_ite, e_tup, e_lst, e_call, e_callk, e_bi, e_mt, e_idx, e_sl, e_slr, e_lc, e_thaw, e_lrng, l_nil, l_cons, o_nil, o_cons, t_nil, t_cons, i_rng, i_cons, s_asg, s_asgm, s_asgi, s_par, s_ex, s_ret, s_retm, s_retn, s_iff, s_forr, s_whl, s_pas, s_brk, s_cnt, b_nil, b_cons, th_nx, th_rt, th_bk, th_ct, List.getElem?_cons_zero, List.getElem?_cons_succ, List.map_cons, List.map_nil, List.cons_append, List.nil_append, List.replicate_succ, List.replicate_zero, if_true, if_false, Bool.false_eq_true, Bool.not_true, Bool.not_false, peek_int, peek_bool, peek_none, peek_str, peek_list, peek_tuple, peek_edict, peek_cel, settle_int, settle_bool, settle_none, settle_str, settle_list, settle_tuple, settle_edict, isTrueD_bool, biD, one, two, kindB, tyD, lenD, intOfD, iiD, sumD, listD, tupleD, binD, addD_int, subD, mulD_int, intD, cmpD, cmpI, isD, isNon, eqD_int, eqD_str, outD_rt, outD_rtt, outD_nx, bindT, List.set_cons_zero, List.set_cons_succ, wipeE, frE, celOf_int, celOf_bool, celOf_none, celOf_str, celOf_list, celOf_tuple, celOf_edict, celOf_cel, Option.isNone_none, Option.isNone_some, Bool.and_true, Bool.true_and, Bool.and_false, Bool.false_and, Bool.or_true, Bool.true_or, Bool.or_false, Bool.false_or, beginD_list, beginD_tuple, unlock_none, unlockO, idxD_list, idxD_tuple, setsE, decide_true, decide_false, List.take_nil, List.length_nil, List.length_cons, mtD, List.set_nil, List.getElem?_nil, Nat.zero_add, decide_eq_true_eq, sb_nil, sb_t, sb_f, sb_e, sa_nil, sa_cons, Nat.reduceSub, Nat.reduceLT, Nat.reduceAdd, Nat.reduceMul, Nat.reduceLeDiff, cnd_and, cnd_or, Option.bind_some, Option.map_some, Option.bind_none, Option.map_none, List.length_map, reduceCtorEq, beq_self_eq_true, eqD_nil, line, Nat.zero_le, ixD_0, ixD_1, ixD_2, ixD_last, Int.reduceEq, Int.reduceLT, Int.reduceLE, Int.reduceNeg, Int.reduceAdd, Int.reduceSub, Int.reduceMul, Nat.reduceEqDiff, Int.cast_ofNat_Int, List.getD_cons_zero, List.getD_cons_succ, b1, h]
  have h2 := F.two
  have h12 := F.few
  have t4 : evS tb (evC tb W (k + 8)) W 1 rs4 [some (cel 0), some (gD g), none, none, none, none, none, none, none, none, none] [(0, g3)] = some (.nx [some (cel 0), some (gD g), some (.int g.length), none, none, none, none, none, none, none, none] [(0, g3)]) := by
    unfold rs4
    simp -implicitDefEqProofs -dsimp only [bnd_some, bnd_none, mpd_some, mpd_none, cnd_true, cnd_false, e_var, vl_int, vl_bool, vl_none, vl_str, vl_list, vl_tuple, vl_edict, vl_cel, vl_scr, e_int, e_str, e_bl, e_non, e_edict, e_bin, e_neg, e_cmp, e_chain, e_and, e_or, e_not, e_ite, e_tup, e_lst, e_call, e_callk, e_bi, e_mt, e_idx, e_sl, e_slr, e_lc, e_thaw, e_lrng, l_nil, l_cons, o_nil, o_cons, t_nil, t_cons, i_rng, i_cons, s_asg, s_asgm, s_asgi, s_par, s_ex, s_ret, s_retm, s_retn, s_iff, s_forr, s_whl, s_pas, s_brk, s_cnt, b_nil, b_cons, th_nx, th_rt, th_bk, th_ct, List.getElem?_cons_zero, List.getElem?_cons_succ, List.map_cons, List.map_nil, List.cons_append, List.nil_append, List.replicate_succ, List.replicate_zero, if_true, if_false, Bool.false_eq_true, Bool.not_true, Bool.not_false, peek_int, peek_bool, peek_none, peek_str, peek_list, peek_tuple, peek_edict, peek_cel, settle_int, settle_bool, settle_none, settle_str, settle_list, settle_tuple, settle_edict, isTrueD_bool, biD, one, two, kindB, tyD, lenD, intOfD, iiD, sumD, listD, tupleD, binD, addD_int, subD, mulD_int, intD, cmpD, cmpI, isD, isNon, eqD_int, eqD_str, outD_rt, outD_rtt, outD_nx, bindT, List.set_cons_zero, List.set_cons_succ, wipeE, frE, celOf_int, celOf_bool, celOf_none, celOf_str, celOf_list, celOf_tuple, celOf_edict, celOf_cel, Option.isNone_none, Option.isNone_some, Bool.and_true, Bool.true_and, Bool.and_false, Bool.false_and, Bool.or_true, Bool.true_or, Bool.or_false, Bool.false_or, beginD_list, beginD_tuple, unlock_none, unlockO, idxD_list, idxD_tuple, setsE, decide_true, decide_false, List.take_nil, List.length_nil, List.length_cons, mtD, List.set_nil, List.getElem?_nil, Nat.zero_add, decide_eq_true_eq, sb_nil, sb_t, sb_f, sb_e, sa_nil, sa_cons, Nat.reduceSub, Nat.reduceLT, Nat.reduceAdd, Nat.reduceMul, Nat.reduceLeDiff, cnd_and, cnd_or, Option.bind_some, Option.map_some, Option.bind_none, Option.map_none, List.length_map, reduceCtorEq, beq_self_eq_true, eqD_nil, line, Nat.zero_le, ixD_0, ixD_1, ixD_2, ixD_last, Int.reduceEq, Int.reduceLT, Int.reduceLE, Int.reduceNeg, Int.reduceAdd, Int.reduceSub, Int.reduceMul, Nat.reduceEqDiff, Int.cast_ofNat_Int, List.getD_cons_zero, List.getD_cons_succ]
  obtain ⟨s, g4, s1, s2, s3⟩ := cl_random (W := W) (k + 6) (i := 0) (S := [(0, g3)]) d3 rfl (by omega) g.length (by omega) (by omega)
  rw [List.set_cons_zero] at s1
  obtain ⟨e, g5, c1, c2, c3⟩ := cl_random (W := W) (k + 6) (i := 0) (S := [(0, g4)]) s3 rfl (by omega) g.length (by omega) (by omega)
  rw [List.set_cons_zero] at c1
  have G : Good g s e := ⟨F.lat.few, F.lat.row, F.lat.lat, s2, c2⟩
  have t5 : evS tb (evC tb W (k + 8)) W 1 rs5 [some (cel 0), some (gD g), some (.int g.length), none, none, none, none, none, none, none, none] [(0, g3)] = some (.nx [some (cel 0), some (gD g), some (.int g.length), some (chD g s e), none, none, none, none, none, none, none] [(0, g5)]) := by
    unfold rs5
    simp -implicitDefEqProofs -dsimp only [bnd_some, bnd_none, mpd_some, mpd_none, cnd_true, cnd_false, e_var, vl_int, vl_bool, vl_none, vl_str, vl_list, vl_tuple, vl_edict, vl_cel, vl_scr, e_int, e_str, e_bl, e_non, e_edict, e_bin, e_neg, e_cmp, e_chain, e_and, e_or, e_not, e_ite, e_tup, e_lst, e_call, e_callk, e_bi, e_mt, e_idx, e_sl, e_slr, e_lc, e_thaw, e_lrng, l_nil, l_cons, o_nil, o_cons, t_nil, t_cons, i_rng, i_cons, s_asg, s_asgm, s_asgi, s_par, s_ex, s_ret, s_retm, s_retn, s_iff, s_forr, s_whl, s_pas, s_brk, s_cnt, b_nil, b_cons, th_nx, th_rt, th_bk, th_ct, List.getElem?_cons_zero, List.getElem?_cons_succ, List.map_cons, List.map_nil, List.cons_append, List.nil_append, List.replicate_succ, List.replicate_zero, if_true, if_false, Bool.false_eq_true, Bool.not_true, Bool.not_false, peek_int, peek_bool, peek_none, peek_str, peek_list, peek_tuple, peek_edict, peek_cel, settle_int, settle_bool, settle_none, settle_str, settle_list, settle_tuple, settle_edict, isTrueD_bool, biD, one, two, kindB, tyD, lenD, intOfD, iiD, sumD, listD, tupleD, binD, addD_int, subD, mulD_int, intD, cmpD, cmpI, isD, isNon, eqD_int, eqD_str, outD_rt, outD_rtt, outD_nx, bindT, List.set_cons_zero, List.set_cons_succ, wipeE, frE, celOf_int, celOf_bool, celOf_none, celOf_str, celOf_list, celOf_tuple, celOf_edict, celOf_cel, Option.isNone_none, Option.isNone_some, Bool.and_true, Bool.true_and, Bool.and_false, Bool.false_and, Bool.or_true, Bool.true_or, Bool.or_false, Bool.false_or, beginD_list, beginD_tuple, unlock_none, unlockO, idxD_list, idxD_tuple, setsE, decide_true, decide_false, List.take_nil, List.length_nil, List.length_cons, mtD, List.set_nil, List.getElem?_nil, Nat.zero_add, decide_eq_true_eq, sb_nil, sb_t, sb_f, sb_e, sa_nil, sa_cons, Nat.reduceSub, Nat.reduceLT, Nat.reduceAdd, Nat.reduceMul, Nat.reduceLeDiff, cnd_and, cnd_or, Option.bind_some, Option.map_some, Option.bind_none, Option.map_none, List.length_map, reduceCtorEq, beq_self_eq_true, eqD_nil, line, Nat.zero_le, ixD_0, ixD_1, ixD_2, ixD_last, Int.reduceEq, Int.reduceLT, Int.reduceLE, Int.reduceNeg, Int.reduceAdd, Int.reduceSub, Int.reduceMul, Nat.reduceEqDiff, Int.cast_ofNat_Int, List.getD_cons_zero, List.getD_cons_succ, s1, c1]
  have rp := ch_repr G h12
  have t6 : evS tb (evC tb W (k + 8)) W 1 rs6 [some (cel 0), some (gD g), some (.int g.length), some (chD g s e), none, none, none, none, none, none, none] [(0, g5)] = some (.nx [some (cel 0), some (gD g), some (.int g.length), some (chD g s e), some (.str (chD g s e).shown), none, none, none, none, none, none] [(0, g5)]) := by
    unfold rs6
    simp -implicitDefEqProofs -dsimp only [bnd_some, bnd_none, mpd_some, mpd_none, cnd_true, cnd_false, e_var, vl_int, vl_bool, vl_none, vl_str, vl_list, vl_tuple, vl_edict, vl_cel, vl_scr, e_int, e_str, e_bl, e_non, e_edict, e_bin, e_neg, e_cmp, e_chain, e_and, e_or, e_not, e_ite, e_tup, e_lst, e_call, e_callk, e_bi, e_mt, e_idx, e_sl, e_slr, e_lc, e_thaw, e_lrng, l_nil, l_cons, o_nil, o_cons, t_nil, t_cons, i_rng, i_cons, s_asg, s_asgm, s_asgi, s_par, s_ex, s_ret, s_retm, s_retn, s_iff, s_forr, s_whl, s_pas, s_brk, s_cnt, b_nil, b_cons, th_nx, th_rt, th_bk, th_ct, List.getElem?_cons_zero, List.getElem?_cons_succ, List.map_cons, List.map_nil, List.cons_append, List.nil_append, List.replicate_succ, List.replicate_zero, if_true, if_false, Bool.false_eq_true, Bool.not_true, Bool.not_false, peek_int, peek_bool, peek_none, peek_str, peek_list, peek_tuple, peek_edict, peek_cel, settle_int, settle_bool, settle_none, settle_str, settle_list, settle_tuple, settle_edict, isTrueD_bool, biD, one, two, kindB, tyD, lenD, intOfD, iiD, sumD, listD, tupleD, binD, addD_int, subD, mulD_int, intD, cmpD, cmpI, isD, isNon, eqD_int, eqD_str, outD_rt, outD_rtt, outD_nx, bindT, List.set_cons_zero, List.set_cons_succ, wipeE, frE, celOf_int, celOf_bool, celOf_none, celOf_str, celOf_list, celOf_tuple, celOf_edict, celOf_cel, Option.isNone_none, Option.isNone_some, Bool.and_true, Bool.true_and, Bool.and_false, Bool.false_and, Bool.or_true, Bool.true_or, Bool.or_false, Bool.false_or, beginD_list, beginD_tuple, unlock_none, unlockO, idxD_list, idxD_tuple, setsE, decide_true, decide_false, List.take_nil, List.length_nil, List.length_cons, mtD, List.set_nil, List.getElem?_nil, Nat.zero_add, decide_eq_true_eq, sb_nil, sb_t, sb_f, sb_e, sa_nil, sa_cons, Nat.reduceSub, Nat.reduceLT, Nat.reduceAdd, Nat.reduceMul, Nat.reduceLeDiff, cnd_and, cnd_or, Option.bind_some, Option.map_some, Option.bind_none, Option.map_none, List.length_map, reduceCtorEq, beq_self_eq_true, eqD_nil, line, Nat.zero_le, ixD_0, ixD_1, ixD_2, ixD_last, Int.reduceEq, Int.reduceLT, Int.reduceLE, Int.reduceNeg, Int.reduceAdd, Int.reduceSub, Int.reduceMul, Nat.reduceEqDiff, Int.cast_ofNat_Int, List.getD_cons_zero, List.getD_cons_succ, rp]
  obtain ⟨w5, w6, w8, t7⟩ := ev7 (W := W) G h12 k [(0, g5)] (some (cel 0)) (some (gD g)) (some (.str (chD g s e).shown)) none none none none none none
  obtain ⟨r, g6, q1, q2, q3⟩ := cl_random (W := W) (k + 6) (i := 0) (S := [(0, g5)]) c3 rfl (by omega) 20 (by omega) (by omega)
  rw [List.set_cons_zero] at q1
  have q1 : callD (evC tb W (k + 8)) i_law_random [cel 0, .int 20] [(0, g5)] = some (.int r, [(0, g6)]) := q1
  obtain ⟨r0, r1⟩ := inB_iff.mp q2
  obtain ⟨l, hl⟩ : ∃ l : Nat, (4 : Int) + r = l := ⟨4 + r.toNat, by omega⟩
  have t8 : evS tb (evC tb W (k + 8)) W 1 rs8 [some (cel 0), some (gD g), some (.int g.length), some (chD g s e), some (.str (chD g s e).shown), w5, w6, none, w8, none, none] [(0, g5)] = some (.nx [some (cel 0), some (gD g), some (.int g.length), some (chD g s e), some (.str (chD g s e).shown), some (.int l), w6, none, w8, none, none] [(0, g6)]) := by
    unfold rs8
    simp -implicitDefEqProofs -dsimp only [bnd_some, bnd_none, mpd_some, mpd_none, cnd_true, cnd_false, e_var, vl_int, vl_bool, vl_none, vl_str, vl_list, vl_tuple, vl_edict, vl_cel, vl_scr, e_int, e_str, e_bl, e_non, e_edict, e_bin, e_neg, e_cmp, e_chain, e_and, e_or, e_not, e_ite, e_tup, e_lst, e_call, e_callk, e_bi, e_mt, e_idx, e_sl, e_slr, e_lc, e_thaw, e_lrng, l_nil, l_cons, o_nil, o_cons, t_nil, t_cons, i_rng, i_cons, s_asg, s_asgm, s_asgi, s_par, s_ex, s_ret, s_retm, s_retn, s_iff, s_forr, s_whl, s_pas, s_brk, s_cnt, b_nil, b_cons, th_nx, th_rt, th_bk, th_ct, List.getElem?_cons_zero, List.getElem?_cons_succ, List.map_cons, List.map_nil, List.cons_append, List.nil_append, List.replicate_succ, List.replicate_zero, if_true, if_false, Bool.false_eq_true, Bool.not_true, Bool.not_false, peek_int, peek_bool, peek_none, peek_str, peek_list, peek_tuple, peek_edict, peek_cel, settle_int, settle_bool, settle_none, settle_str, settle_list, settle_tuple, settle_edict, isTrueD_bool, biD, one, two, kindB, tyD, lenD, intOfD, iiD, sumD, listD, tupleD, binD, addD_int, subD, mulD_int, intD, cmpD, cmpI, isD, isNon, eqD_int, eqD_str, outD_rt, outD_rtt, outD_nx, bindT, List.set_cons_zero, List.set_cons_succ, wipeE, frE, celOf_int, celOf_bool, celOf_none, celOf_str, celOf_list, celOf_tuple, celOf_edict, celOf_cel, Option.isNone_none, Option.isNone_some, Bool.and_true, Bool.true_and, Bool.and_false, Bool.false_and, Bool.or_true, Bool.true_or, Bool.or_false, Bool.false_or, beginD_list, beginD_tuple, unlock_none, unlockO, idxD_list, idxD_tuple, setsE, decide_true, decide_false, List.take_nil, List.length_nil, List.length_cons, mtD, List.set_nil, List.getElem?_nil, Nat.zero_add, decide_eq_true_eq, sb_nil, sb_t, sb_f, sb_e, sa_nil, sa_cons, Nat.reduceSub, Nat.reduceLT, Nat.reduceAdd, Nat.reduceMul, Nat.reduceLeDiff, cnd_and, cnd_or, Option.bind_some, Option.map_some, Option.bind_none, Option.map_none, List.length_map, reduceCtorEq, beq_self_eq_true, eqD_nil, line, Nat.zero_le, ixD_0, ixD_1, ixD_2, ixD_last, Int.reduceEq, Int.reduceLT, Int.reduceLE, Int.reduceNeg, Int.reduceAdd, Int.reduceSub, Int.reduceMul, Nat.reduceEqDiff, Int.cast_ofNat_Int, List.getD_cons_zero, List.getD_cons_succ, q1, hl]
  obtain ⟨x6, g7, t9⟩ := ev9 (W := W) G h12 k _ q3 (by omega) [] (l := l) (by omega) (by omega) (some (gD g)) (some (.str (chD g s e).shown)) w6 none w8 none none
  obtain ⟨w7, t10, t11, t12⟩ := ev10_12 (W := W) G h12 k [(0, g7)] (l := l) (by omega) (by omega) (some (cel 0)) x6 none w8 none none
  refine ⟨g7, ?_⟩
  rw [b_cons, t1, bnd_some, th_nx, b_cons, t2, bnd_some, th_nx, b_cons, t3, bnd_some, th_nx, b_cons, t4, bnd_some, th_nx, b_cons, t5, bnd_some, th_nx, b_cons, t6, bnd_some, th_nx, b_cons, t7, bnd_some, th_nx, b_cons, t8, bnd_some, th_nx, b_cons, t9, bnd_some, th_nx,
    b_cons, t10, bnd_some, th_nx, b_cons, t11, bnd_some, th_nx, b_cons, t12, bnd_some, th_rt, bnd_some, outD_rt]
  rfl
end K50
end
section
set_option Elab.async false
set_option linter.all false
set_option maxRecDepth 100000
set_option maxHeartbeats 4000000
namespace K50
open PySem TW
variable {W : Nat}
theorem allInts_take (ns : List Int) (j : Nat) : allInts ((ns.map PyData.int).take j) = some (ns.take j) := by
  rw [← List.map_take, allInts_map]
theorem cl_cell (k : Nat) (ns : List Int) (i : Nat) (S : Sto) : ∃ v : Int, callD (evC tb W (k + 1)) i_law_cell [scrD ns, .int i] S = some (.int v, S) := by
  have hcel : ∀ S, peek S (scrD ns) = scrD ns := fun _ => rfl
  have hset : ∀ S, TW.settle S (scrD ns) = some (scrD ns, S) := fun _ => rfl
  have hlen : lenD (scrD ns) = some (.int ns.length) := by
    show some (PyData.int ((ns.map PyData.int).length : Nat)) = _
    rw [List.length_map]
  cases h : decide ((i : Int) < (ns.length : Int)) with
  | true =>
    have hi : i < ns.length := by
      have := of_decide_eq_true h
      omega
    refine ⟨ns[i], callD_plain rfl ?_⟩
    have hx : idxD (scrD ns) (.int i) = some (.int ns[i]) := by
      show (ixD (ns.map PyData.int).length (i : Int)).bind (fun j => (ns.map PyData.int)[j]?) = _
      rw [ixD_in (by rw [List.length_map]; exact hi), Option.bind_some, List.getElem?_map, List.getElem?_eq_getElem hi]; rfl
    rw [evC_run (fn := f_law_cell) rfl rfl]
    simp -implicitDefEqProofs -dsimp only [bnd_some, bnd_none, mpd_some, mpd_none, cnd_true, cnd_false, e_var, vl_int, vl_bool, vl_none, vl_str, vl_list, vl_tuple, vl_edict, vl_cel, vl_scr, e_int, e_str, e_bl, e_non, e_edict, e_bin, e_neg, e_cmp, e_chain, e_and, e_or, e_not, e_ite, e_tup, e_lst, e_call, e_callk, e_bi, e_mt, e_idx, e_sl, e_slr, e_lc, e_thaw, e_lrng, l_nil, l_cons, o_nil, o_cons, t_nil, t_cons, i_rng, i_cons, s_asg, s_asgm, s_asgi, s_par, s_ex, s_ret, s_retm, s_retn, s_iff, s_forr, s_whl, s_pas, s_brk, s_cnt, b_nil, b_cons, th_nx, th_rt, th_bk, th_ct, List.getElem?_cons_zero, List.getElem?_cons_succ, List.map_cons, List.map_nil, List.cons_append, List.nil_append, List.replicate_succ, List.replicate_zero, if_true, if_false, Bool.false_eq_true, Bool.not_true, Bool.not_false, peek_int, peek_bool, peek_none, peek_str, peek_list, peek_tuple, peek_edict, peek_cel, settle_int, settle_bool, settle_none, settle_str, settle_list, settle_tuple, settle_edict, isTrueD_bool, biD, one, two, kindB, tyD, lenD, intOfD, iiD, sumD, listD, tupleD, binD, addD_int, subD, mulD_int, intD, cmpD, cmpI, isD, isNon, eqD_int, eqD_str, outD_rt, outD_rtt, outD_nx, bindT, List.set_cons_zero, List.set_cons_succ, wipeE, frE, celOf_int, celOf_bool, celOf_none, celOf_str, celOf_list, celOf_tuple, celOf_edict, celOf_cel, Option.isNone_none, Option.isNone_some, Bool.and_true, Bool.true_and, Bool.and_false, Bool.false_and, Bool.or_true, Bool.true_or, Bool.or_false, Bool.false_or, beginD_list, beginD_tuple, unlock_none, unlockO, idxD_list, idxD_tuple, setsE, decide_true, decide_false, List.take_nil, List.length_nil, List.length_cons, mtD, List.set_nil, List.getElem?_nil, Nat.zero_add, decide_eq_true_eq, sb_nil, sb_t, sb_f, sb_e, sa_nil, sa_cons, Nat.reduceSub, Nat.reduceLT, Nat.reduceAdd, Nat.reduceMul, Nat.reduceLeDiff, cnd_and, cnd_or, Option.bind_some, Option.map_some, Option.bind_none, Option.map_none, List.length_map, reduceCtorEq, beq_self_eq_true, eqD_nil, line, Nat.zero_le, ixD_0, ixD_1, ixD_2, ixD_last, Int.reduceEq, Int.reduceLT, Int.reduceLE, Int.reduceNeg, Int.reduceAdd, Int.reduceSub, Int.reduceMul, Nat.reduceEqDiff, Int.cast_ofNat_Int, List.getD_cons_zero, List.getD_cons_succ, -lenD, t_law_cell, hcel, hset, hlen, h, hx]
  | false =>
    refine ⟨(ns.take 1).sum % 1000003, callD_plain rfl ?_⟩
    have hs : slD (scrD ns) none (some (.int 1)) = some (.list ((ns.take 1).map PyData.int)) := by
      show some (PyData.list (cutD (ns.map .int) none (some 1))) = _
      cases ns with
      | nil => rfl
      | cons a ns =>
        have := sl_to ((a :: ns).map .int) 1 (by simp)
        rw [← List.map_take] at this
        exact this
    have ha := allInts_map (ns.take 1)
    have hm : decide ((0 : Int) < 1000003) = true := rfl
    rw [evC_run (fn := f_law_cell) rfl rfl]
    simp -implicitDefEqProofs -dsimp only [bnd_some, bnd_none, mpd_some, mpd_none, cnd_true, cnd_false, e_var, vl_int, vl_bool, vl_none, vl_str, vl_list, vl_tuple, vl_edict, vl_cel, vl_scr, e_int, e_str, e_bl, e_non, e_edict, e_bin, e_neg, e_cmp, e_chain, e_and, e_or, e_not, e_ite, e_tup, e_lst, e_call, e_callk, e_bi, e_mt, e_idx, e_sl, e_slr, e_lc, e_thaw, e_lrng, l_nil, l_cons, o_nil, o_cons, t_nil, t_cons, i_rng, i_cons, s_asg, s_asgm, s_asgi, s_par, s_ex, s_ret, s_retm, s_retn, s_iff, s_forr, s_whl, s_pas, s_brk, s_cnt, b_nil, b_cons, th_nx, th_rt, th_bk, th_ct, List.getElem?_cons_zero, List.getElem?_cons_succ, List.map_cons, List.map_nil, List.cons_append, List.nil_append, List.replicate_succ, List.replicate_zero, if_true, if_false, Bool.false_eq_true, Bool.not_true, Bool.not_false, peek_int, peek_bool, peek_none, peek_str, peek_list, peek_tuple, peek_edict, peek_cel, settle_int, settle_bool, settle_none, settle_str, settle_list, settle_tuple, settle_edict, isTrueD_bool, biD, one, two, kindB, tyD, lenD, intOfD, iiD, sumD, listD, tupleD, binD, addD_int, subD, mulD_int, intD, cmpD, cmpI, isD, isNon, eqD_int, eqD_str, outD_rt, outD_rtt, outD_nx, bindT, List.set_cons_zero, List.set_cons_succ, wipeE, frE, celOf_int, celOf_bool, celOf_none, celOf_str, celOf_list, celOf_tuple, celOf_edict, celOf_cel, Option.isNone_none, Option.isNone_some, Bool.and_true, Bool.true_and, Bool.and_false, Bool.false_and, Bool.or_true, Bool.true_or, Bool.or_false, Bool.false_or, beginD_list, beginD_tuple, unlock_none, unlockO, idxD_list, idxD_tuple, setsE, decide_true, decide_false, List.take_nil, List.length_nil, List.length_cons, mtD, List.set_nil, List.getElem?_nil, Nat.zero_add, decide_eq_true_eq, sb_nil, sb_t, sb_f, sb_e, sa_nil, sa_cons, Nat.reduceSub, Nat.reduceLT, Nat.reduceAdd, Nat.reduceMul, Nat.reduceLeDiff, cnd_and, cnd_or, Option.bind_some, Option.map_some, Option.bind_none, Option.map_none, List.length_map, reduceCtorEq, beq_self_eq_true, eqD_nil, line, Nat.zero_le, ixD_0, ixD_1, ixD_2, ixD_last, Int.reduceEq, Int.reduceLT, Int.reduceLE, Int.reduceNeg, Int.reduceAdd, Int.reduceSub, Int.reduceMul, Nat.reduceEqDiff, Int.cast_ofNat_Int, List.getD_cons_zero, List.getD_cons_succ, -lenD, t_law_cell, hcel, hset, hlen, h, hs, ha, hm]
theorem cl_generator (k : Nat) (ns : List Int) (i : Nat) (hi : i ≤ 10) (S : Sto) : ∃ gd, callD (evC tb W (k + 2)) i_law_generator [scrD ns, .int i] S = some (gd, S) ∧ GenOk 10000 gd := by
  obtain ⟨v, hv⟩ := cl_cell (W := W) k ns i []
  have hcel : ∀ S, peek S (scrD ns) = scrD ns := fun _ => rfl
  have hset : ∀ S, TW.settle S (scrD ns) = some (scrD ns, S) := fun _ => rfl
  have p1 : powOk 10 18 = true := rfl
  have p2 : powOk 10 60 = true := rfl
  have p3 : powOk ((10 : Int) ^ Int.toNat 60) 10 = true := by decide +kernel
  have p4 : decide ((0 : Int) < ((10 : Int) ^ Int.toNat 60) ^ Int.toNat 10) = true := by decide +kernel
  have p5 : decide ((0 : Int) < 2147483647) = true := rfl
  have p6 : mulOk 1000 (i : Int) = true := mulOk_l rfl
  refine ⟨genD ((if (0 : Int) > v - (10 : Int) ^ Int.toNat 18 then 0 else v - (10 : Int) ^ Int.toNat 18) % (((10 : Int) ^ Int.toNat 60) ^ Int.toNat 10)) (v % 2147483647) (1000 * (i : Int)), callD_plain rfl ?_, _, _, _, rfl, ?_, ?_, ?_, ?_, ?_⟩
  · rw [evC_run (fn := f_law_generator) rfl rfl]
    simp -implicitDefEqProofs -dsimp only [bnd_some, bnd_none, mpd_some, mpd_none, cnd_true, cnd_false, e_var, vl_int, vl_bool, vl_none, vl_str, vl_list, vl_tuple, vl_edict, vl_cel, vl_scr, e_int, e_str, e_bl, e_non, e_edict, e_bin, e_neg, e_cmp, e_chain, e_and, e_or, e_not, e_ite, e_tup, e_lst, e_call, e_callk, e_bi, e_mt, e_idx, e_sl, e_slr, e_lc, e_thaw, e_lrng, l_nil, l_cons, o_nil, o_cons, t_nil, t_cons, i_rng, i_cons, s_asg, s_asgm, s_asgi, s_par, s_ex, s_ret, s_retm, s_retn, s_iff, s_forr, s_whl, s_pas, s_brk, s_cnt, b_nil, b_cons, th_nx, th_rt, th_bk, th_ct, List.getElem?_cons_zero, List.getElem?_cons_succ, List.map_cons, List.map_nil, List.cons_append, List.nil_append, List.replicate_succ, List.replicate_zero, if_true, if_false, Bool.false_eq_true, Bool.not_true, Bool.not_false, peek_int, peek_bool, peek_none, peek_str, peek_list, peek_tuple, peek_edict, peek_cel, settle_int, settle_bool, settle_none, settle_str, settle_list, settle_tuple, settle_edict, isTrueD_bool, biD, one, two, kindB, tyD, lenD, intOfD, iiD, sumD, listD, tupleD, binD, addD_int, subD, mulD_int, intD, cmpD, cmpI, isD, isNon, eqD_int, eqD_str, outD_rt, outD_rtt, outD_nx, bindT, List.set_cons_zero, List.set_cons_succ, wipeE, frE, celOf_int, celOf_bool, celOf_none, celOf_str, celOf_list, celOf_tuple, celOf_edict, celOf_cel, Option.isNone_none, Option.isNone_some, Bool.and_true, Bool.true_and, Bool.and_false, Bool.false_and, Bool.or_true, Bool.true_or, Bool.or_false, Bool.false_or, beginD_list, beginD_tuple, unlock_none, unlockO, idxD_list, idxD_tuple, setsE, decide_true, decide_false, List.take_nil, List.length_nil, List.length_cons, mtD, List.set_nil, List.getElem?_nil, Nat.zero_add, decide_eq_true_eq, sb_nil, sb_t, sb_f, sb_e, sa_nil, sa_cons, Nat.reduceSub, Nat.reduceLT, Nat.reduceAdd, Nat.reduceMul, Nat.reduceLeDiff, cnd_and, cnd_or, Option.bind_some, Option.map_some, Option.bind_none, Option.map_none, List.length_map, reduceCtorEq, beq_self_eq_true, eqD_nil, line, Nat.zero_le, ixD_0, ixD_1, ixD_2, ixD_last, Int.reduceEq, Int.reduceLT, Int.reduceLE, Int.reduceNeg, Int.reduceAdd, Int.reduceSub, Int.reduceMul, Nat.reduceEqDiff, Int.cast_ofNat_Int, List.getD_cons_zero, List.getD_cons_succ, t_law_generator, hcel, hset, hv, p1, p2, p3, p4, p5, p6]
    try rfl
  · exact Int.emod_nonneg _ (by have := of_decide_eq_true p4; omega)
  · exact Int.emod_nonneg _ (by omega)
  · have := Int.emod_lt_of_pos v (show (0 : Int) < 2147483647 by omega)
    omega
  · omega
  · omega
def lw1 : T := (.iff (.not (.call i_law_right [true] (.cons (.thaw (.call i_law_generator [] (.cons (.var 0) (.cons (.var 1) .nil)))) .nil))) (.cons (.ret (.bl false)) .nil) .nil)
def lw2 : T := (.cons (.asg (.var 2) (.tup (.cons (.lst (.cons (.lst (.cons (.int 0) (.cons (.int 1) .nil))) (.cons (.lst (.cons (.int 1) (.cons (.int 0) .nil))) .nil))) (.cons (.int 0) (.cons (.int 1) .nil))))) (.cons (.asg (.var 3) (.tup (.cons (.lst (.cons (.lst (.cons (.int 0) (.cons (.int 1) (.cons (.int 2) (.cons (.int 3) (.cons (.int 4) .nil)))))) (.cons (.lst (.cons (.int 1) (.cons (.int 0) (.cons (.int 3) (.cons (.int 4) (.cons (.int 2) .nil)))))) (.cons (.lst (.cons (.int 2) (.cons (.int 4) (.cons (.int 0) (.cons (.int 1) (.cons (.int 3) .nil)))))) (.cons (.lst (.cons (.int 3) (.cons (.int 2) (.cons (.int 4) (.cons (.int 0) (.cons (.int 1) .nil)))))) (.cons (.lst (.cons (.int 4) (.cons (.int 3) (.cons (.int 1) (.cons (.int 2) (.cons (.int 0) .nil)))))) .nil)))))) (.cons (.int 0) (.cons (.int 0) .nil))))) (.cons (.iff (.cmp .ne (.bi .repr (.cons (.lst (.cons (.call i_how_many_slip [] (.cons (.var 3) (.cons (.int 5) (.cons (.int 0) .nil)))) (.cons (.call i_how_many_slip [] (.cons (.var 3) (.cons (.int 5) (.cons (.int 1) .nil)))) .nil))) .nil)) (.bi .repr (.cons (.lst (.cons (.int 200) (.cons (.int 320) .nil))) .nil))) (.cons (.ret (.bl false)) .nil) .nil) (.cons (.ret (.cmp .eq (.lst (.cons (.call i_how_many_slip [] (.cons (.var 2) (.cons (.int 2) (.cons (.int 0) .nil)))) (.cons (.call i_how_many_slip [] (.cons (.var 2) (.cons (.int 3) (.cons (.int 0) .nil)))) (.cons (.call i_how_many_slip [] (.cons (.var 2) (.cons (.int 3) (.cons (.int 1) .nil)))) (.cons (.call i_how_many_slip [] (.cons (.var 2) (.cons (.int 60) (.cons (.int 30) .nil)))) .nil))))) (.lst (.cons (.int 2) (.cons (.int 2) (.cons (.int 2) (.cons (.bin .shl (.int 1) (.int 58)) .nil))))))) .nil))))
theorem law_t : t_law = .cons (.forr (.var 1) (.rng (.cons (.int 3) .nil)) (.cons lw1 .nil)) lw2 := rfl
theorem law_turn (k : Nat) (hW : 200 ≤ W) (ns : List Int) (i : Nat) (hi : i ≤ 10) (R : Sto) : ∃ R', bodyF tb (evC tb W (k + 10)) W 0 (.cons lw1 .nil) [some (scrD ns), some (.int i), none, none] R = some (.nx [some (scrD ns), some (.int i), none, none] R') := by
  obtain ⟨gd, h1, h2⟩ := cl_generator (W := W) (k + 8) ns i hi R
  obtain ⟨gd', h3⟩ := ev_right (W := W) (k + 1) 10000 h2 (by omega) hW
  have h4 : callD (evC tb W (k + 10)) i_law_right [cel R.length] (R ++ [(0, gd)]) = some (.bool true, (R ++ [(0, gd)]).set R.length (0, gd')) := callD_one rfl (List.getElem?_concat_length ..) h3
  obtain ⟨a, s, c, rfl, _⟩ := h2
  have hset : ∀ S, TW.settle S (scrD ns) = some (scrD ns, S) := fun _ => rfl
  have hfr : tb i_law_generator = some f_law_generator := rfl
  refine ⟨(R ++ [(0, genD a s c)]).set R.length (0, gd'), ?_⟩
  show evB tb (evC tb W (k + 10)) W 0 (.cons lw1 .nil) _ _ = _
  unfold lw1
  simp -implicitDefEqProofs -dsimp only [bnd_some, bnd_none, mpd_some, mpd_none, cnd_true, cnd_false, e_var, vl_int, vl_bool, vl_none, vl_str, vl_list, vl_tuple, vl_edict, vl_cel, vl_scr, e_int, e_str, e_bl, e_non, e_edict, e_bin, e_neg, e_cmp, e_chain, e_and, e_or, e_not, e_ite, e_tup, e_lst, e_call, e_callk, e_bi, e_mt, e_idx, e_sl, e_slr, e_lc, e_thaw, e_lrng, l_nil, l_cons, o_nil, o_cons, t_nil, t_cons, i_rng, i_cons, s_asg, s_asgm, s_asgi, s_par, s_ex, s_ret, s_retm, s_retn, s_iff, s_forr, s_whl, s_pas, s_brk, s_cnt, b_nil, b_cons, th_nx, th_rt, th_bk, th_ct, List.getElem?_cons_zero, List.getElem?_cons_succ, List.map_cons, List.map_nil, List.cons_append, List.nil_append, List.replicate_succ, List.replicate_zero, if_true, if_false, Bool.false_eq_true, Bool.not_true, Bool.not_false, peek_int, peek_bool, peek_none, peek_str, peek_list, peek_tuple, peek_edict, peek_cel, settle_int, settle_bool, settle_none, settle_str, settle_list, settle_tuple, settle_edict, isTrueD_bool, biD, one, two, kindB, tyD, lenD, intOfD, iiD, sumD, listD, tupleD, binD, addD_int, subD, mulD_int, intD, cmpD, cmpI, isD, isNon, eqD_int, eqD_str, outD_rt, outD_rtt, outD_nx, bindT, List.set_cons_zero, List.set_cons_succ, wipeE, frE, celOf_int, celOf_bool, celOf_none, celOf_str, celOf_list, celOf_tuple, celOf_edict, celOf_cel, Option.isNone_none, Option.isNone_some, Bool.and_true, Bool.true_and, Bool.and_false, Bool.false_and, Bool.or_true, Bool.true_or, Bool.or_false, Bool.false_or, beginD_list, beginD_tuple, unlock_none, unlockO, idxD_list, idxD_tuple, setsE, decide_true, decide_false, List.take_nil, List.length_nil, List.length_cons, mtD, List.set_nil, List.getElem?_nil, Nat.zero_add, decide_eq_true_eq, sb_nil, sb_t, sb_f, sb_e, sa_nil, sa_cons, Nat.reduceSub, Nat.reduceLT, Nat.reduceAdd, Nat.reduceMul, Nat.reduceLeDiff, cnd_and, cnd_or, Option.bind_some, Option.map_some, Option.bind_none, Option.map_none, List.length_map, reduceCtorEq, beq_self_eq_true, eqD_nil, line, Nat.zero_le, ixD_0, ixD_1, ixD_2, ixD_last, Int.reduceEq, Int.reduceLT, Int.reduceLE, Int.reduceNeg, Int.reduceAdd, Int.reduceSub, Int.reduceMul, Nat.reduceEqDiff, Int.cast_ofNat_Int, List.getD_cons_zero, List.getD_cons_succ, hset, h1, hfr, e_thaw, h4]
theorem law_tail (k : Nat) (ns : List Int) (w : Option PyData) (R : Sto) : evB tb (evC tb W (k + 10)) W 0 lw2 [some (scrD ns), w, none, none] R = some (.rt (.bool true) false R) := by kernel_rfl
theorem main_k (k : Nat) (hW : 200 ≤ W) (ns : List Int) : evC tb W (k + 11) i_law [scrD ns] [] = some (.bool true, []) := by
  rw [evC_run (fn := f_law) rfl rfl]
  show bnd (evB tb (evC tb W (k + 10)) W 0 t_law [some (scrD ns), none, none, none] []) (outD 0 false) _ = _
  rw [law_t]
  obtain ⟨env', S', h1, w, e1⟩ := forLoop_ind (tg := .var 1) (g := fun (i : Nat) => PyData.int i) (body := bodyF tb (evC tb W (k + 10)) W 0 (.cons lw1 .nil))
    (fun i env S => ∃ w, env = [some (scrD ns), w, none, none]) (List.range 3)
    (env := [some (scrD ns), none, none, none]) (S := []) ⟨none, rfl⟩ (by
      rintro i a env S ha ⟨w, rfl⟩
      have hi := List.mem_range.mp (List.mem_of_getElem? ha)
      obtain ⟨R', hR⟩ := law_turn (W := W) k hW ns a (by omega) S
      exact ⟨_, _, R', rfl, .inl hR, ⟨_, rfl⟩⟩)
  subst e1
  have hr : rngD [.int 3] = some ((List.range 3).map fun (i : Nat) => PyData.int i) := rngD_one (j := 3) (by omega)
  have hi : evI tb (evC tb W (k + 10)) (.rng (.cons (.int 3) .nil)) [some (scrD ns), none, none, none] [] = some ((List.range 3).map (fun (i : Nat) => PyData.int i), [], none) := by
    simp -implicitDefEqProofs -dsimp only [i_rng, l_cons, l_nil, e_int, bnd_some, mpd_some, hr]
  rw [b_cons, s_forr, hi, bnd_some, h1, mpd_some, bnd_some]
  show bnd (evB tb (evC tb W (k + 10)) W 0 lw2 [some (scrD ns), w, none, none] S') _ _ = _
  rw [law_tail, bnd_some, outD_rt]
  rfl
def fuel : Nat := 4096
theorem main : ∀ ns : List Int, ns.length ≤ 63 → ∃ S, evC tb fuel 40 31 [scrD ns] [] = some (.bool true, S) := fun ns _ => ⟨[], main_k (W := fuel) 29 (by unfold fuel; omega) ns⟩
end K50
end
section
set_option Elab.async false
set_option linter.all false
set_option maxRecDepth 100000
open PySem
/-! ### the terms of the defs (printed by gen.py) -/
namespace K50
def topS (i : Nat) : PySem.Stmt := PySem.Challenge.pw_tallywright_k50_whole_lists_that_slip.main.body.getD i (.Pass ⟨0, 0, 0, 0⟩)
abbrev s_is_whole : PySem.Stmt := topS 5
def d_is_whole : TW.Df := ⟨"is_whole", s_is_whole, ["value"], ["value"], false, t_is_whole⟩
abbrev s_is_between : PySem.Stmt := topS 6
def d_is_between : TW.Df := ⟨"is_between", s_is_between, ["value", "low", "high"], ["value", "low", "high"], false, t_is_between⟩
abbrev s_check_number : PySem.Stmt := topS 7
def d_check_number : TW.Df := ⟨"check_number", s_check_number, ["number", "low", "high"], ["number", "low", "high"], true, t_check_number⟩
abbrev s_times_over : PySem.Stmt := topS 9
def d_times_over : TW.Df := ⟨"times_over", s_times_over, ["number", "many", "found", "_"], ["number", "many"], false, t_times_over⟩
abbrev s_row_of_fits : PySem.Stmt := topS 11
def d_row_of_fits : TW.Df := ⟨"row_of_fits", s_row_of_fits, ["size", "value", "item"], ["size", "value"], false, t_row_of_fits⟩
abbrev s_all_once : PySem.Stmt := topS 12
def d_all_once : TW.Df := ⟨"all_once", s_all_once, ["size", "value"], ["size", "value"], false, t_all_once⟩
abbrev s_square_fits : PySem.Stmt := topS 14
def d_square_fits : TW.Df := ⟨"square_fits", s_square_fits, ["value", "row", "at"], ["value"], false, t_square_fits⟩
abbrev s_swaps_in_square : PySem.Stmt := topS 15
def d_swaps_in_square : TW.Df := ⟨"swaps_in_square", s_swaps_in_square, ["square", "found", "plain", "state", "row", "one", "after", "other"], ["square"], true, t_swaps_in_square⟩
abbrev s_chain_fits : PySem.Stmt := topS 17
def d_chain_fits : TW.Df := ⟨"chain_fits", s_chain_fits, ["value", "state"], ["value"], false, t_chain_fits⟩
abbrev s_check_chain : PySem.Stmt := topS 18
def d_check_chain : TW.Df := ⟨"check_chain", s_check_chain, ["chain"], ["chain"], true, t_check_chain⟩
abbrev s_ways_to : PySem.Stmt := topS 19
def d_ways_to : TW.Df := ⟨"ways_to", s_ways_to, ["size", "length", "alike"], ["size", "length", "alike"], false, t_ways_to⟩
abbrev s_how_many_slip : PySem.Stmt := topS 20
def d_how_many_slip : TW.Df := ⟨"how_many_slip", s_how_many_slip, ["chain", "length", "place", "square", "start", "end", "size", "found", "state", "one", "other", "last", "ahead"], ["chain", "length", "place"], false, t_how_many_slip⟩
abbrev s_how_many_right_lists : PySem.Stmt := topS 21
def d_how_many_right_lists : TW.Df := ⟨"how_many_right_lists", s_how_many_right_lists, ["chain", "length"], ["chain", "length"], false, t_how_many_right_lists⟩
abbrev s_law_cell : PySem.Stmt := topS 23
def d_law_cell : TW.Df := ⟨"_law_cell", s_law_cell, ["script", "index"], ["script", "index"], false, t_law_cell⟩
abbrev s_law_hash : PySem.Stmt := topS 24
def d_law_hash : TW.Df := ⟨"_law_hash", s_law_hash, ["seed", "index", "mixed"], ["seed", "index"], false, t_law_hash⟩
abbrev s_law_generator : PySem.Stmt := topS 25
def d_law_generator : TW.Df := ⟨"_law_generator", s_law_generator, ["script", "index", "seed"], ["script", "index"], true, t_law_generator⟩
abbrev s_law_random : PySem.Stmt := topS 26
def d_law_random : TW.Df := ⟨"_law_random", s_law_random, ["generator", "limit", "drawn", "turn"], ["generator", "limit"], false, t_law_random⟩
abbrev s_law_abelian : PySem.Stmt := topS 27
def d_law_abelian : TW.Df := ⟨"_law_abelian", s_law_abelian, ["orders", "sizes", "order", "table", "one", "row", "other", "left", "right", "here", "whole"], ["orders"], true, t_law_abelian⟩
abbrev s_law_dihedral : PySem.Stmt := topS 28
def d_law_dihedral : TW.Df := ⟨"_law_dihedral", s_law_dihedral, ["turns", "found", "one", "row", "other", "step"], ["turns"], true, t_law_dihedral⟩
abbrev s_law_group : PySem.Stmt := topS 29
def d_law_group : TW.Df := ⟨"_law_group", s_law_group, ["generator", "way", "menu"], ["generator"], true, t_law_group⟩
abbrev s_law_shuffled : PySem.Stmt := topS 30
def d_law_shuffled : TW.Df := ⟨"_law_shuffled", s_law_shuffled, ["generator", "size", "left", "found"], ["generator", "size"], true, t_law_shuffled⟩
abbrev s_law_all_codes : PySem.Stmt := topS 31
def d_law_all_codes : TW.Df := ⟨"_law_all_codes", s_law_all_codes, ["size", "places", "found", "turn", "longer", "code", "sign"], ["size", "places"], false, t_law_all_codes⟩
abbrev s_law_square : PySem.Stmt := topS 32
def d_law_square : TW.Df := ⟨"_law_square", s_law_square, ["generator", "way", "group", "rows", "signs", "names", "found", "size", "weights", "weight", "turn", "state", "sign", "low"], ["generator"], false, t_law_square⟩
abbrev s_law_swaps : PySem.Stmt := topS 33
def d_law_swaps : TW.Df := ⟨"_law_swaps", s_law_swaps, ["square", "found", "state", "one", "other"], ["square"], true, t_law_swaps⟩
abbrev s_law_last : PySem.Stmt := topS 34
def d_law_last : TW.Df := ⟨"_law_last", s_law_last, ["chain", "code", "state", "sign"], ["chain", "code"], false, t_law_last⟩
abbrev s_law_slips : PySem.Stmt := topS 35
def d_law_slips : TW.Df := ⟨"_law_slips", s_law_slips, ["chain", "length", "place", "found", "code", "one", "other"], ["chain", "length", "place"], false, t_law_slips⟩
abbrev s_law_reached : PySem.Stmt := topS 36
def d_law_reached : TW.Df := ⟨"_law_reached", s_law_reached, ["square", "start", "length", "counts", "turn", "later", "state", "many", "last"], ["square", "start", "length"], false, t_law_reached⟩
abbrev s_law_counted : PySem.Stmt := topS 37
def d_law_counted : TW.Df := ⟨"_law_counted", s_law_counted, ["chain", "length", "place", "square", "start", "end", "ahead", "found", "behind", "state", "one", "other"], ["chain", "length", "place"], false, t_law_counted⟩
abbrev s_law_uneven : PySem.Stmt := topS 38
def d_law_uneven : TW.Df := ⟨"_law_uneven", s_law_uneven, ["generator", "square", "states", "signs", "found", "state", "sign"], ["generator"], false, t_law_uneven⟩
abbrev s_law_right : PySem.Stmt := topS 39
def d_law_right : TW.Df := ⟨"_law_right", s_law_right, ["generator", "square", "size", "chain", "kept", "length", "place", "inner", "due", "state", "sign"], ["generator"], false, t_law_right⟩
abbrev s_law_power : PySem.Stmt := topS 40
def d_law_power : TW.Df := ⟨"_law_power", s_law_power, ["base", "many", "found", "turn"], ["base", "many"], false, t_law_power⟩
abbrev s_law : PySem.Stmt := topS 41
def d_law : TW.Df := ⟨"law", s_law, ["script", "index", "two", "five"], ["script"], false, t_law⟩
def D : List TW.Df := [d_is_whole, d_is_between, d_check_number, d_times_over, d_row_of_fits, d_all_once, d_square_fits, d_swaps_in_square, d_chain_fits, d_check_chain, d_ways_to, d_how_many_slip, d_how_many_right_lists, d_law_cell, d_law_hash, d_law_generator, d_law_random, d_law_abelian, d_law_dihedral, d_law_group, d_law_shuffled, d_law_all_codes, d_law_square, d_law_swaps, d_law_last, d_law_slips, d_law_reached, d_law_counted, d_law_uneven, d_law_right, d_law_power, d_law]
theorem tb_eq : TW.tbOf D = tb := by funext f; unfold TW.tbOf tb; rw [show tbL = D.map fun d => (⟨d.ps.length, d.N.length, d.fr, d.body⟩ : TW.Fn) from rfl, List.getElem?_map]
def kw : TW.Kw := [(11, ["place", "length", "chain"], [2, 1, 0])]
theorem ok_is_whole : TW.okDf (TW.nmOf D) kw d_is_whole = true := by decide +kernel
theorem ok_is_between : TW.okDf (TW.nmOf D) kw d_is_between = true := by decide +kernel
theorem ok_check_number : TW.okDf (TW.nmOf D) kw d_check_number = true := by decide +kernel
theorem ok_times_over : TW.okDf (TW.nmOf D) kw d_times_over = true := by decide +kernel
theorem ok_row_of_fits : TW.okDf (TW.nmOf D) kw d_row_of_fits = true := by decide +kernel
theorem ok_all_once : TW.okDf (TW.nmOf D) kw d_all_once = true := by decide +kernel
theorem ok_square_fits : TW.okDf (TW.nmOf D) kw d_square_fits = true := by decide +kernel
theorem ok_swaps_in_square : TW.okDf (TW.nmOf D) kw d_swaps_in_square = true := by decide +kernel
theorem ok_chain_fits : TW.okDf (TW.nmOf D) kw d_chain_fits = true := by decide +kernel
theorem ok_check_chain : TW.okDf (TW.nmOf D) kw d_check_chain = true := by decide +kernel
theorem ok_ways_to : TW.okDf (TW.nmOf D) kw d_ways_to = true := by decide +kernel
theorem ok_how_many_slip : TW.okDf (TW.nmOf D) kw d_how_many_slip = true := by decide +kernel
theorem ok_how_many_right_lists : TW.okDf (TW.nmOf D) kw d_how_many_right_lists = true := by decide +kernel
theorem ok_law_cell : TW.okDf (TW.nmOf D) kw d_law_cell = true := by decide +kernel
theorem ok_law_hash : TW.okDf (TW.nmOf D) kw d_law_hash = true := by decide +kernel
theorem ok_law_generator : TW.okDf (TW.nmOf D) kw d_law_generator = true := by decide +kernel
theorem ok_law_random : TW.okDf (TW.nmOf D) kw d_law_random = true := by decide +kernel
theorem ok_law_abelian : TW.okDf (TW.nmOf D) kw d_law_abelian = true := by decide +kernel
theorem ok_law_dihedral : TW.okDf (TW.nmOf D) kw d_law_dihedral = true := by decide +kernel
theorem ok_law_group : TW.okDf (TW.nmOf D) kw d_law_group = true := by decide +kernel
theorem ok_law_shuffled : TW.okDf (TW.nmOf D) kw d_law_shuffled = true := by decide +kernel
theorem ok_law_all_codes : TW.okDf (TW.nmOf D) kw d_law_all_codes = true := by decide +kernel
theorem ok_law_square : TW.okDf (TW.nmOf D) kw d_law_square = true := by decide +kernel
theorem ok_law_swaps : TW.okDf (TW.nmOf D) kw d_law_swaps = true := by decide +kernel
theorem ok_law_last : TW.okDf (TW.nmOf D) kw d_law_last = true := by decide +kernel
theorem ok_law_slips : TW.okDf (TW.nmOf D) kw d_law_slips = true := by decide +kernel
theorem ok_law_reached : TW.okDf (TW.nmOf D) kw d_law_reached = true := by decide +kernel
theorem ok_law_counted : TW.okDf (TW.nmOf D) kw d_law_counted = true := by decide +kernel
theorem ok_law_uneven : TW.okDf (TW.nmOf D) kw d_law_uneven = true := by decide +kernel
theorem ok_law_right : TW.okDf (TW.nmOf D) kw d_law_right = true := by decide +kernel
theorem ok_law_power : TW.okDf (TW.nmOf D) kw d_law_power = true := by decide +kernel
theorem ok_law : TW.okDf (TW.nmOf D) kw d_law = true := by decide +kernel
theorem D_ok : ∀ d ∈ D, TW.okDf (TW.nmOf D) kw d = true := by
  intro d hd
  simp only [D, List.mem_cons, List.not_mem_nil, or_false] at hd
  rcases hd with rfl | rfl | rfl | rfl | rfl | rfl | rfl | rfl | rfl | rfl | rfl | rfl | rfl | rfl | rfl | rfl | rfl | rfl | rfl | rfl | rfl | rfl | rfl | rfl | rfl | rfl | rfl | rfl | rfl | rfl | rfl | rfl
  · exact ok_is_whole
  · exact ok_is_between
  · exact ok_check_number
  · exact ok_times_over
  · exact ok_row_of_fits
  · exact ok_all_once
  · exact ok_square_fits
  · exact ok_swaps_in_square
  · exact ok_chain_fits
  · exact ok_check_chain
  · exact ok_ways_to
  · exact ok_how_many_slip
  · exact ok_how_many_right_lists
  · exact ok_law_cell
  · exact ok_law_hash
  · exact ok_law_generator
  · exact ok_law_random
  · exact ok_law_abelian
  · exact ok_law_dihedral
  · exact ok_law_group
  · exact ok_law_shuffled
  · exact ok_law_all_codes
  · exact ok_law_square
  · exact ok_law_swaps
  · exact ok_law_last
  · exact ok_law_slips
  · exact ok_law_reached
  · exact ok_law_counted
  · exact ok_law_uneven
  · exact ok_law_right
  · exact ok_law_power
  · exact ok_law
theorem b_is_whole : TW.Bnd d_is_whole := fun _ _ _ _ _ _ us hl => match us, hl with | [_], _ => rfl
theorem b_is_between : TW.Bnd d_is_between := fun _ _ _ _ _ _ us hl => match us, hl with | [_, _, _], _ => rfl
theorem b_check_number : TW.Bnd d_check_number := fun _ _ _ _ _ _ us hl => match us, hl with | [_, _, _], _ => rfl
theorem b_times_over : TW.Bnd d_times_over := fun _ _ _ _ _ _ us hl => match us, hl with | [_, _], _ => rfl
theorem b_row_of_fits : TW.Bnd d_row_of_fits := fun _ _ _ _ _ _ us hl => match us, hl with | [_, _], _ => rfl
theorem b_all_once : TW.Bnd d_all_once := fun _ _ _ _ _ _ us hl => match us, hl with | [_, _], _ => rfl
theorem b_square_fits : TW.Bnd d_square_fits := fun _ _ _ _ _ _ us hl => match us, hl with | [_], _ => rfl
theorem b_swaps_in_square : TW.Bnd d_swaps_in_square := fun _ _ _ _ _ _ us hl => match us, hl with | [_], _ => rfl
theorem b_chain_fits : TW.Bnd d_chain_fits := fun _ _ _ _ _ _ us hl => match us, hl with | [_], _ => rfl
theorem b_check_chain : TW.Bnd d_check_chain := fun _ _ _ _ _ _ us hl => match us, hl with | [_], _ => rfl
theorem b_ways_to : TW.Bnd d_ways_to := fun _ _ _ _ _ _ us hl => match us, hl with | [_, _, _], _ => rfl
theorem b_how_many_slip : TW.Bnd d_how_many_slip := fun _ _ _ _ _ _ us hl => match us, hl with | [_, _, _], _ => rfl
theorem b_how_many_right_lists : TW.Bnd d_how_many_right_lists := fun _ _ _ _ _ _ us hl => match us, hl with | [_, _], _ => rfl
theorem b_law_cell : TW.Bnd d_law_cell := fun _ _ _ _ _ _ us hl => match us, hl with | [_, _], _ => rfl
theorem b_law_hash : TW.Bnd d_law_hash := fun _ _ _ _ _ _ us hl => match us, hl with | [_, _], _ => rfl
theorem b_law_generator : TW.Bnd d_law_generator := fun _ _ _ _ _ _ us hl => match us, hl with | [_, _], _ => rfl
theorem b_law_random : TW.Bnd d_law_random := fun _ _ _ _ _ _ us hl => match us, hl with | [_, _], _ => rfl
theorem b_law_abelian : TW.Bnd d_law_abelian := fun _ _ _ _ _ _ us hl => match us, hl with | [_], _ => rfl
theorem b_law_dihedral : TW.Bnd d_law_dihedral := fun _ _ _ _ _ _ us hl => match us, hl with | [_], _ => rfl
theorem b_law_group : TW.Bnd d_law_group := fun _ _ _ _ _ _ us hl => match us, hl with | [_], _ => rfl
theorem b_law_shuffled : TW.Bnd d_law_shuffled := fun _ _ _ _ _ _ us hl => match us, hl with | [_, _], _ => rfl
theorem b_law_all_codes : TW.Bnd d_law_all_codes := fun _ _ _ _ _ _ us hl => match us, hl with | [_, _], _ => rfl
theorem b_law_square : TW.Bnd d_law_square := fun _ _ _ _ _ _ us hl => match us, hl with | [_], _ => rfl
theorem b_law_swaps : TW.Bnd d_law_swaps := fun _ _ _ _ _ _ us hl => match us, hl with | [_], _ => rfl
theorem b_law_last : TW.Bnd d_law_last := fun _ _ _ _ _ _ us hl => match us, hl with | [_, _], _ => rfl
theorem b_law_slips : TW.Bnd d_law_slips := fun _ _ _ _ _ _ us hl => match us, hl with | [_, _, _], _ => rfl
theorem b_law_reached : TW.Bnd d_law_reached := fun _ _ _ _ _ _ us hl => match us, hl with | [_, _, _], _ => rfl
theorem b_law_counted : TW.Bnd d_law_counted := fun _ _ _ _ _ _ us hl => match us, hl with | [_, _, _], _ => rfl
theorem b_law_uneven : TW.Bnd d_law_uneven := fun _ _ _ _ _ _ us hl => match us, hl with | [_], _ => rfl
theorem b_law_right : TW.Bnd d_law_right := fun _ _ _ _ _ _ us hl => match us, hl with | [_], _ => rfl
theorem b_law_power : TW.Bnd d_law_power := fun _ _ _ _ _ _ us hl => match us, hl with | [_, _], _ => rfl
theorem b_law : TW.Bnd d_law := fun _ _ _ _ _ _ us hl => match us, hl with | [_], _ => rfl
theorem kb_0 : TW.KBnd d_how_many_slip ["place", "length", "chain"] [2, 1, 0] := ⟨⟨rfl, by decide⟩, fun _ _ _ _ _ _ ws hl => match ws, hl with | [_, _, _], _ => rfl⟩
theorem kb_all : ∀ i d ks perm, D[i]? = some d → (i, ks, perm) ∈ kw → TW.KBnd d ks perm := by
  intro i d ks perm hi h
  simp only [kw, List.mem_cons, List.not_mem_nil, or_false, Prod.mk.injEq] at h
  rcases h with ⟨rfl, rfl, rfl⟩
  · cases hi; exact kb_0
theorem has_all {K : PySem.W.Frag} (h0 : TW.HasN K "is_whole" s_is_whole) (h1 : TW.HasN K "is_between" s_is_between) (h2 : TW.HasN K "check_number" s_check_number) (h3 : TW.HasN K "times_over" s_times_over) (h4 : TW.HasN K "row_of_fits" s_row_of_fits) (h5 : TW.HasN K "all_once" s_all_once) (h6 : TW.HasN K "square_fits" s_square_fits) (h7 : TW.HasN K "swaps_in_square" s_swaps_in_square) (h8 : TW.HasN K "chain_fits" s_chain_fits) (h9 : TW.HasN K "check_chain" s_check_chain) (h10 : TW.HasN K "ways_to" s_ways_to) (h11 : TW.HasN K "how_many_slip" s_how_many_slip) (h12 : TW.HasN K "how_many_right_lists" s_how_many_right_lists) (h13 : TW.HasN K "_law_cell" s_law_cell) (h14 : TW.HasN K "_law_hash" s_law_hash) (h15 : TW.HasN K "_law_generator" s_law_generator) (h16 : TW.HasN K "_law_random" s_law_random) (h17 : TW.HasN K "_law_abelian" s_law_abelian) (h18 : TW.HasN K "_law_dihedral" s_law_dihedral) (h19 : TW.HasN K "_law_group" s_law_group) (h20 : TW.HasN K "_law_shuffled" s_law_shuffled) (h21 : TW.HasN K "_law_all_codes" s_law_all_codes) (h22 : TW.HasN K "_law_square" s_law_square) (h23 : TW.HasN K "_law_swaps" s_law_swaps) (h24 : TW.HasN K "_law_last" s_law_last) (h25 : TW.HasN K "_law_slips" s_law_slips) (h26 : TW.HasN K "_law_reached" s_law_reached) (h27 : TW.HasN K "_law_counted" s_law_counted) (h28 : TW.HasN K "_law_uneven" s_law_uneven) (h29 : TW.HasN K "_law_right" s_law_right) (h30 : TW.HasN K "_law_power" s_law_power) (h31 : TW.HasN K "law" s_law) : ∀ d ∈ D, TW.HasN K d.nm d.st := by
  intro d hd
  simp only [D, List.mem_cons, List.not_mem_nil, or_false] at hd
  rcases hd with rfl | rfl | rfl | rfl | rfl | rfl | rfl | rfl | rfl | rfl | rfl | rfl | rfl | rfl | rfl | rfl | rfl | rfl | rfl | rfl | rfl | rfl | rfl | rfl | rfl | rfl | rfl | rfl | rfl | rfl | rfl | rfl
  · exact h0
  · exact h1
  · exact h2
  · exact h3
  · exact h4
  · exact h5
  · exact h6
  · exact h7
  · exact h8
  · exact h9
  · exact h10
  · exact h11
  · exact h12
  · exact h13
  · exact h14
  · exact h15
  · exact h16
  · exact h17
  · exact h18
  · exact h19
  · exact h20
  · exact h21
  · exact h22
  · exact h23
  · exact h24
  · exact h25
  · exact h26
  · exact h27
  · exact h28
  · exact h29
  · exact h30
  · exact h31
theorem bnd_all : ∀ d ∈ D, TW.Bnd d := by
  intro d hd
  simp only [D, List.mem_cons, List.not_mem_nil, or_false] at hd
  rcases hd with rfl | rfl | rfl | rfl | rfl | rfl | rfl | rfl | rfl | rfl | rfl | rfl | rfl | rfl | rfl | rfl | rfl | rfl | rfl | rfl | rfl | rfl | rfl | rfl | rfl | rfl | rfl | rfl | rfl | rfl | rfl | rfl
  · exact b_is_whole
  · exact b_is_between
  · exact b_check_number
  · exact b_times_over
  · exact b_row_of_fits
  · exact b_all_once
  · exact b_square_fits
  · exact b_swaps_in_square
  · exact b_chain_fits
  · exact b_check_chain
  · exact b_ways_to
  · exact b_how_many_slip
  · exact b_how_many_right_lists
  · exact b_law_cell
  · exact b_law_hash
  · exact b_law_generator
  · exact b_law_random
  · exact b_law_abelian
  · exact b_law_dihedral
  · exact b_law_group
  · exact b_law_shuffled
  · exact b_law_all_codes
  · exact b_law_square
  · exact b_law_swaps
  · exact b_law_last
  · exact b_law_slips
  · exact b_law_reached
  · exact b_law_counted
  · exact b_law_uneven
  · exact b_law_right
  · exact b_law_power
  · exact b_law
theorem z_all {K : PySem.W.Frag} (z0 : PySem.W.nsIn K PySem.mainGlobals "len" = some none) (z1 : PySem.W.nsIn K PySem.mainGlobals "int" = some none) (z2 : PySem.W.nsIn K PySem.mainGlobals "max" = some none) (z3 : PySem.W.nsIn K PySem.mainGlobals "min" = some none) (z4 : PySem.W.nsIn K PySem.mainGlobals "sum" = some none) (z5 : PySem.W.nsIn K PySem.mainGlobals "list" = some none) (z6 : PySem.W.nsIn K PySem.mainGlobals "tuple" = some none) (z7 : PySem.W.nsIn K PySem.mainGlobals "all" = some none) (z8 : PySem.W.nsIn K PySem.mainGlobals "any" = some none) (z9 : PySem.W.nsIn K PySem.mainGlobals "repr" = some none) (z10 : PySem.W.nsIn K PySem.mainGlobals "divmod" = some none) (z11 : PySem.W.nsIn K PySem.mainGlobals "sorted" = some none) (z12 : PySem.W.nsIn K PySem.mainGlobals "isinstance" = some none) (z13 : PySem.W.nsIn K PySem.mainGlobals "set" = some none) (z14 : PySem.W.nsIn K PySem.mainGlobals "range" = some none) (z15 : PySem.W.nsIn K PySem.mainGlobals "bool" = some none) (z16 : PySem.W.nsIn K PySem.mainGlobals "str" = some none) (z17 : PySem.W.nsIn K PySem.mainGlobals "dict" = some none) (z18 : PySem.W.nsIn K PySem.mainGlobals "enumerate" = some none) (z19 : PySem.W.nsIn K PySem.mainGlobals "zip" = some none) : ∀ x ∈ TW.bltNames, PySem.W.nsIn K PySem.mainGlobals x = some none := by
  intro x hx
  simp only [TW.bltNames, List.mem_cons, List.not_mem_nil, or_false] at hx
  rcases hx with rfl | rfl | rfl | rfl | rfl | rfl | rfl | rfl | rfl | rfl | rfl | rfl | rfl | rfl | rfl | rfl | rfl | rfl | rfl | rfl <;> assumption
theorem made {w : PySem.World} {K : PySem.W.Frag} {h : PySem.Heap} {mg : PySem.Str → Option PySem.Value} {fa : PySem.Addr} {W k : Nat} (X : K.In h) (G : h.Ns PySem.mainGlobals mg) (hfa : mg "law" = some (.ref fa)) (h0 : TW.HasN K "is_whole" s_is_whole) (h1 : TW.HasN K "is_between" s_is_between) (h2 : TW.HasN K "check_number" s_check_number) (h3 : TW.HasN K "times_over" s_times_over) (h4 : TW.HasN K "row_of_fits" s_row_of_fits) (h5 : TW.HasN K "all_once" s_all_once) (h6 : TW.HasN K "square_fits" s_square_fits) (h7 : TW.HasN K "swaps_in_square" s_swaps_in_square) (h8 : TW.HasN K "chain_fits" s_chain_fits) (h9 : TW.HasN K "check_chain" s_check_chain) (h10 : TW.HasN K "ways_to" s_ways_to) (h11 : TW.HasN K "how_many_slip" s_how_many_slip) (h12 : TW.HasN K "how_many_right_lists" s_how_many_right_lists) (h13 : TW.HasN K "_law_cell" s_law_cell) (h14 : TW.HasN K "_law_hash" s_law_hash) (h15 : TW.HasN K "_law_generator" s_law_generator) (h16 : TW.HasN K "_law_random" s_law_random) (h17 : TW.HasN K "_law_abelian" s_law_abelian) (h18 : TW.HasN K "_law_dihedral" s_law_dihedral) (h19 : TW.HasN K "_law_group" s_law_group) (h20 : TW.HasN K "_law_shuffled" s_law_shuffled) (h21 : TW.HasN K "_law_all_codes" s_law_all_codes) (h22 : TW.HasN K "_law_square" s_law_square) (h23 : TW.HasN K "_law_swaps" s_law_swaps) (h24 : TW.HasN K "_law_last" s_law_last) (h25 : TW.HasN K "_law_slips" s_law_slips) (h26 : TW.HasN K "_law_reached" s_law_reached) (h27 : TW.HasN K "_law_counted" s_law_counted) (h28 : TW.HasN K "_law_uneven" s_law_uneven) (h29 : TW.HasN K "_law_right" s_law_right) (h30 : TW.HasN K "_law_power" s_law_power) (h31 : TW.HasN K "law" s_law) (z0 : PySem.W.nsIn K PySem.mainGlobals "len" = some none) (z1 : PySem.W.nsIn K PySem.mainGlobals "int" = some none) (z2 : PySem.W.nsIn K PySem.mainGlobals "max" = some none) (z3 : PySem.W.nsIn K PySem.mainGlobals "min" = some none) (z4 : PySem.W.nsIn K PySem.mainGlobals "sum" = some none) (z5 : PySem.W.nsIn K PySem.mainGlobals "list" = some none) (z6 : PySem.W.nsIn K PySem.mainGlobals "tuple" = some none) (z7 : PySem.W.nsIn K PySem.mainGlobals "all" = some none) (z8 : PySem.W.nsIn K PySem.mainGlobals "any" = some none) (z9 : PySem.W.nsIn K PySem.mainGlobals "repr" = some none) (z10 : PySem.W.nsIn K PySem.mainGlobals "divmod" = some none) (z11 : PySem.W.nsIn K PySem.mainGlobals "sorted" = some none) (z12 : PySem.W.nsIn K PySem.mainGlobals "isinstance" = some none) (z13 : PySem.W.nsIn K PySem.mainGlobals "set" = some none) (z14 : PySem.W.nsIn K PySem.mainGlobals "range" = some none) (z15 : PySem.W.nsIn K PySem.mainGlobals "bool" = some none) (z16 : PySem.W.nsIn K PySem.mainGlobals "str" = some none) (z17 : PySem.W.nsIn K PySem.mainGlobals "dict" = some none) (z18 : PySem.W.nsIn K PySem.mainGlobals "enumerate" = some none) (z19 : PySem.W.nsIn K PySem.mainGlobals "zip" = some none) :
    ∃ fd : PySem.FuncData, (∀ (s : PySem.Shared) (u : PySem.Value), PySem.BindsTo s fd ⟨[u], []⟩ [("script", u)]) ∧ ∀ base : PySem.Heap, K.In base → base.Ns PySem.mainGlobals mg → TW.FnG PySem.Challenge.rw_tallywright_k50_whole_lists_that_slip.prog w K mg base L2.CX0 k fa fd [("script" : PySem.Str)] (TW.spC K (TW.evC (TW.tbOf D) W k 31) 1 false) :=
  TW.promise_of (l := PySem.Challenge.rw_tallywright_k50_whole_lists_that_slip) (i := 31) (d := d_law) (kw := kw) X G hfa rfl rfl D_ok (fun i d hi => TW.lk_of X G (has_all h0 h1 h2 h3 h4 h5 h6 h7 h8 h9 h10 h11 h12 h13 h14 h15 h16 h17 h18 h19 h20 h21 h22 h23 h24 h25 h26 h27 h28 h29 h30 h31 d (List.mem_of_getElem? hi)) (bnd_all d (List.mem_of_getElem? hi)) fun ks perm h => kb_all i d ks perm hi h) (z_all z0 z1 z2 z3 z4 z5 z6 z7 z8 z9 z10 z11 z12 z13 z14 z15 z16 z17 z18 z19) b_law
end K50
end
open PySem PySem.W PyProof.Rows
set_option maxHeartbeats 0 in
theorem PySem.Challenge.cw_tallywright_k50_whole_lists_that_slip_holds : PySem.Challenge.rw_tallywright_k50_whole_lists_that_slip.Holds := by
  w_on; o_law; k_head; (case hw => w_witness2)
  k_fill
  refine TW.law_walk (l := PySem.Challenge.rw_tallywright_k50_whole_lists_that_slip) (n := 63) (k := 40) (x := "script") (sp := fun K => TW.spC K (TW.evC (TW.tbOf K50.D) K50.fuel 40 31) 1 false) rfl (by decide) rfl ⟨rfl, by decide, by decide⟩ (fun w h Y => PySem.W.kIn_of Y) ?F (TW.told_of (by decide) (by rw [K50.tb_eq]; exact K50.main))
  case F =>
    intro w mg fa h KX G hmg
    refine' K50.made KX G hmg ?h0 ?h1 ?h2 ?h3 ?h4 ?h5 ?h6 ?h7 ?h8 ?h9 ?h10 ?h11 ?h12 ?h13 ?h14 ?h15 ?h16 ?h17 ?h18 ?h19 ?h20 ?h21 ?h22 ?h23 ?h24 ?h25 ?h26 ?h27 ?h28 ?h29 ?h30 ?h31 ?z0 ?z1 ?z2 ?z3 ?z4 ?z5 ?z6 ?z7 ?z8 ?z9 ?z10 ?z11 ?z12 ?z13 ?z14 ?z15 ?z16 ?z17 ?z18 ?z19
    (case h0 => refine' TW.has_mk ?a ?l ?c ?k; (case a => k_is); (case l => k_is); (case c => k_is); (case k => k_is))
    (case h1 => refine' TW.has_mk ?a ?l ?c ?k; (case a => k_is); (case l => k_is); (case c => k_is); (case k => k_is))
    (case h2 => refine' TW.has_mk ?a ?l ?c ?k; (case a => k_is); (case l => k_is); (case c => k_is); (case k => k_is))
    (case h3 => refine' TW.has_mk ?a ?l ?c ?k; (case a => k_is); (case l => k_is); (case c => k_is); (case k => k_is))
    (case h4 => refine' TW.has_mk ?a ?l ?c ?k; (case a => k_is); (case l => k_is); (case c => k_is); (case k => k_is))
    (case h5 => refine' TW.has_mk ?a ?l ?c ?k; (case a => k_is); (case l => k_is); (case c => k_is); (case k => k_is))
    (case h6 => refine' TW.has_mk ?a ?l ?c ?k; (case a => k_is); (case l => k_is); (case c => k_is); (case k => k_is))
    (case h7 => refine' TW.has_mk ?a ?l ?c ?k; (case a => k_is); (case l => k_is); (case c => k_is); (case k => k_is))
    (case h8 => refine' TW.has_mk ?a ?l ?c ?k; (case a => k_is); (case l => k_is); (case c => k_is); (case k => k_is))
    (case h9 => refine' TW.has_mk ?a ?l ?c ?k; (case a => k_is); (case l => k_is); (case c => k_is); (case k => k_is))
    (case h10 => refine' TW.has_mk ?a ?l ?c ?k; (case a => k_is); (case l => k_is); (case c => k_is); (case k => k_is))
    (case h11 => refine' TW.has_mk ?a ?l ?c ?k; (case a => k_is); (case l => k_is); (case c => k_is); (case k => k_is))
    (case h12 => refine' TW.has_mk ?a ?l ?c ?k; (case a => k_is); (case l => k_is); (case c => k_is); (case k => k_is))
    (case h13 => refine' TW.has_mk ?a ?l ?c ?k; (case a => k_is); (case l => k_is); (case c => k_is); (case k => k_is))
    (case h14 => refine' TW.has_mk ?a ?l ?c ?k; (case a => k_is); (case l => k_is); (case c => k_is); (case k => k_is))
    (case h15 => refine' TW.has_mk ?a ?l ?c ?k; (case a => k_is); (case l => k_is); (case c => k_is); (case k => k_is))
    (case h16 => refine' TW.has_mk ?a ?l ?c ?k; (case a => k_is); (case l => k_is); (case c => k_is); (case k => k_is))
    (case h17 => refine' TW.has_mk ?a ?l ?c ?k; (case a => k_is); (case l => k_is); (case c => k_is); (case k => k_is))
    (case h18 => refine' TW.has_mk ?a ?l ?c ?k; (case a => k_is); (case l => k_is); (case c => k_is); (case k => k_is))
    (case h19 => refine' TW.has_mk ?a ?l ?c ?k; (case a => k_is); (case l => k_is); (case c => k_is); (case k => k_is))
    (case h20 => refine' TW.has_mk ?a ?l ?c ?k; (case a => k_is); (case l => k_is); (case c => k_is); (case k => k_is))
    (case h21 => refine' TW.has_mk ?a ?l ?c ?k; (case a => k_is); (case l => k_is); (case c => k_is); (case k => k_is))
    (case h22 => refine' TW.has_mk ?a ?l ?c ?k; (case a => k_is); (case l => k_is); (case c => k_is); (case k => k_is))
    (case h23 => refine' TW.has_mk ?a ?l ?c ?k; (case a => k_is); (case l => k_is); (case c => k_is); (case k => k_is))
    (case h24 => refine' TW.has_mk ?a ?l ?c ?k; (case a => k_is); (case l => k_is); (case c => k_is); (case k => k_is))
    (case h25 => refine' TW.has_mk ?a ?l ?c ?k; (case a => k_is); (case l => k_is); (case c => k_is); (case k => k_is))
    (case h26 => refine' TW.has_mk ?a ?l ?c ?k; (case a => k_is); (case l => k_is); (case c => k_is); (case k => k_is))
    (case h27 => refine' TW.has_mk ?a ?l ?c ?k; (case a => k_is); (case l => k_is); (case c => k_is); (case k => k_is))
    (case h28 => refine' TW.has_mk ?a ?l ?c ?k; (case a => k_is); (case l => k_is); (case c => k_is); (case k => k_is))
    (case h29 => refine' TW.has_mk ?a ?l ?c ?k; (case a => k_is); (case l => k_is); (case c => k_is); (case k => k_is))
    (case h30 => refine' TW.has_mk ?a ?l ?c ?k; (case a => k_is); (case l => k_is); (case c => k_is); (case k => k_is))
    (case h31 => refine' TW.has_mk ?a ?l ?c ?k; (case a => k_is); (case l => k_is); (case c => k_is); (case k => k_is))
    (case z0 => k_is)
    (case z1 => k_is)
    (case z2 => k_is)
    (case z3 => k_is)
    (case z4 => k_is)
    (case z5 => k_is)
    (case z6 => k_is)
    (case z7 => k_is)
    (case z8 => k_is)
    (case z9 => k_is)
    (case z10 => k_is)
    (case z11 => k_is)
    (case z12 => k_is)
    (case z13 => k_is)
    (case z14 => k_is)
    (case z15 => k_is)
    (case z16 => k_is)
    (case z17 => k_is)
    (case z18 => k_is)
    (case z19 => k_is)
