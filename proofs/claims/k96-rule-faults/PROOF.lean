import PyProof.Rows.All
import Wide.All
import OpenK.AllK
import Wide.FinOn
import HandS.Base
import HandS.Call
import HandS.List
import HandS.Comp
import HandS.Dict
import HandS.Words
import HandS.TupAny
import HandS.Style
import HandS.Flow
import HandS.Conv
import HandS.ListItems
import PyProof.ReprLen
import PyProof.ReprRoads
import HandS.IsInst
import HandS.SortInts
import HandS.Small
import PyProof.ReprReads
import HandS.Steps
import HandS.Iter
import KE.GoesMore
import HandS.DictComp
import HandS.Ends
import PySem.Challenge.RW_keptrest_k96_whole_rule_faults
set_option Elab.async false
set_option linter.all false
set_option autoImplicit false
namespace MP

/-- data: numbers, texts, tuples; lists and dicts that nobody changes; references to what is changed -/
inductive D where
  | non
  | bl (b : Bool)
  | int (i : Int)
  | str (s : List Nat)
  | tup (l : List D)
  | lst (l : List D)
  | dct (tk : Bool) (ks vs : List D)
  | obj (i : Nat)
  /-- a value that nobody looks at -/
  | opq
  deriving Inhabited, Repr

/-- what is changed -/
inductive MO where
  | lst (l : List D)
  | dct (tk : Bool) (kv : List (D × D)) (lck : Bool)
  deriving Inhabited, Repr

abbrev Mem := List MO
abbrev Env := List (Option D)

inductive Bop where | add | sub | mul | fdiv | mod | pow
  deriving DecidableEq, Repr
inductive Cop where | eq | ne | lt | le | gt | ge | mem | nmem
  deriving DecidableEq, Repr
inductive Bi where | len | int | str | repr | tuple | list | listV | sorted | min | max | items
  deriving DecidableEq, Repr
inductive Ty where | int | bool | str | tuple | list | dict
  deriving DecidableEq, Repr
inductive Me where | append | extend | pop
  deriving DecidableEq, Repr
inductive Tg where
  | v (i : Nat)
  | tup (l : List Nat)
  deriving DecidableEq, Repr

mutual
inductive Ex where
  | v (i : Nat)
  | k (d : D)
  | tup (l : List Ex)
  | lst (mu : Bool) (l : List Ex)
  | dct (mu tk : Bool) (ks vs : List Ex)
  | ix (a i : Ex)
  | sl (a : Ex) (lo hi : List Ex)
  | rev (a : Ex)
  | bin (o : Bop) (a b : Ex)
  | catM (a b : Ex)
  | neg (a : Ex)
  | cmp (o : Cop) (a b : Ex)
  | chain (o p : Cop) (a b c : Ex)
  | reprEq (n : Bool) (a b : Ex)
  | reprNil (n : Bool) (a : Ex)
  | isN (a : Ex)
  | notN (a : Ex)
  | not (a : Ex)
  | and (a b : Ex)
  | or (a b : Ex)
  | ite (t a b : Ex)
  | call (f : Nat) (args : List Ex)
  | bi (b : Bi) (args : List Ex)
  | isin (a : Ex) (t : Ty)
  | me (m : Me) (o : Ex) (args : List Ex)
  | comp (mu : Bool) (own : List Nat) (tg : Tg) (it : It) (test : List Ex) (elt : Ex)
  | dcomp (own : List Nat) (tg : Tg) (it : It) (key val : Ex)
  deriving Repr
inductive It where
  | seq (e : Ex)
  | range1 (b : Ex)
  | range2 (a b : Ex)
  | enum (e : Ex)
  /-- the keys of the dict in a slot -/
  | keys (i : Nat)
  deriving Repr
end

inductive St where
  | set (i : Nat) (e : Ex)
  | par (is : List Nat) (es : List Ex)
  | unp (is : List Nat) (e : Ex)
  | setix (o k e : Ex)
  | ex (e : Ex)
  | ite (t : Ex) (a b : List St)
  | for (tg : Tg) (it : It) (body : List St)
  | while (t : Ex) (body : List St)
  | ret (e : Ex)
  | ret0
  | brk
  | cont
  | pass
  deriving Repr

inductive R (α : Type) where
  | ok (a : α) (m : Mem)
  | stop
  deriving Repr, Inhabited

@[reducible] def R.bind {α β : Type} (r : R α) (f : α → Mem → R β) : R β :=
  match r with
  | .ok a m => f a m
  | .stop => .stop

inductive O where
  | nx (r : Env) (m : Mem)
  | rt (d : D) (m : Mem)
  | bk (r : Env) (m : Mem)
  | ct (r : Env) (m : Mem)
  | stop
  deriving Repr, Inhabited

/-! ### values -/
def line : Nat := 16777216

mutual
/-- no reference, no dict in it -/
def D.pure : D → Bool
  | .tup l => D.pureAll l
  | .lst l => D.pureAll l
  | .dct _ _ _ => false
  | .obj _ => false
  | .opq => false
  | .non => true
  | .bl _ => true
  | .int _ => true
  | .str _ => true
def D.pureAll : List D → Bool
  | [] => true
  | d :: r => D.pure d && D.pureAll r
end
mutual
def D.depth : D → Nat
  | .tup l => D.depthAll l + 1
  | .lst l => D.depthAll l + 1
  | .dct _ _ _ => 0
  | .obj _ => 0
  | .opq => 0
  | .non => 0
  | .bl _ => 0
  | .int _ => 0
  | .str _ => 0
def D.depthAll : List D → Nat
  | [] => 0
  | d :: r => Nat.max (D.depth d) (D.depthAll r)
end

def b2i (b : Bool) : Int := if b then 1 else 0
mutual
/-- Python's == over pure data -/
def eqv : D → D → Bool
  | .non, .non => true
  | .bl a, .bl b => a == b
  | .bl a, .int j => b2i a == j
  | .int i, .bl b => i == b2i b
  | .int i, .int j => i == j
  | .str x, .str y => x == y
  | .lst xs, .lst ys => eqvAll xs ys
  | .tup xs, .tup ys => eqvAll xs ys
  | _, _ => false
def eqvAll : List D → List D → Bool
  | [], [] => true
  | x :: xs, y :: ys => eqv x y && eqvAll xs ys
  | _, _ => false
end

/-- a key of a dict: a number, a text, or a tuple of such -/
def flat : D → Bool
  | .int _ => true
  | .str _ => true
  | _ => false
def isKey : D → Bool
  | .int _ => true
  | .str _ => true
  | .tup l => l.all flat
  | _ => false
def flatEq : D → D → Bool
  | .int i, .int j => i == j
  | .str x, .str y => x == y
  | _, _ => false
def flatEqAll : List D → List D → Bool
  | [], [] => true
  | x :: xs, y :: ys => flatEq x y && flatEqAll xs ys
  | _, _ => false
def keyEq : D → D → Bool
  | .tup xs, .tup ys => flatEqAll xs ys
  | a, b => flatEq a b
def isTupKey : D → Bool
  | .tup _ => true
  | _ => false

def lookK (k : D) : List (D × D) → Option D
  | [] => none
  | (a, v) :: r => if keyEq a k then some v else lookK k r
def putK (k v : D) (kv : List (D × D)) : List (D × D) :=
  if kv.any (fun p => keyEq p.1 k) then kv.map (fun p => if keyEq p.1 k then (p.1, v) else p) else kv ++ [(k, v)]
def look2 (k : D) : List D → List D → Option D
  | a :: r, v :: s => if keyEq a k then some v else look2 k r s
  | _, _ => none
def idx? (l : List D) (i : Int) : Option D :=
  if 0 ≤ i then l[i.toNat]? else if -(l.length : Int) ≤ i then l[(i + l.length).toNat]? else none

def truth (d : D) (m : Mem) : Option Bool :=
  match d with
  | .non => some false
  | .bl b => some b
  | .int i => some (i != 0)
  | .str s => if decide (s.length ≤ line) then some (!s.isEmpty) else none
  | .tup l => some (!l.isEmpty)
  | .lst l => some (!l.isEmpty)
  | .dct .. => none
  | .opq => none
  | .obj i => match m[i]? with
    | some (.lst l) => some (!l.isEmpty)
    | _ => none

def clampI (n : Nat) (i : Int) : Nat :=
  if i < 0 then (i + n).toNat else min i.toNat n
def loI (n : Nat) : Option Int → Nat
  | none => 0
  | some i => clampI n i
def hiI (n : Nat) : Option Int → Nat
  | none => n
  | some i => clampI n i
def cut (l : List D) (lo hi : Option Int) : List D := (l.drop (loI l.length lo)).take (hiI l.length hi - loI l.length lo)

def natDigits (n : Nat) : List Nat := (Nat.toDigits 10 n).map Char.toNat
def intText (i : Int) : List Nat := if i < 0 then 45 :: natDigits i.natAbs else natDigits i.natAbs

def ltStr : List Nat → List Nat → Bool
  | [], [] => false
  | [], _ :: _ => true
  | _ :: _, [] => false
  | a :: r, b :: s => if a < b then true else if b < a then false else ltStr r s
def insS (x : List Nat) : List (List Nat) → List (List Nat)
  | [] => [x]
  | y :: r => if ltStr y x then y :: insS x r else x :: y :: r
def sortS : List (List Nat) → List (List Nat)
  | [] => []
  | x :: r => insS x (sortS r)
def asStrs : List D → Option (List (List Nat))
  | [] => some []
  | .str s :: r => (asStrs r).map (s :: ·)
  | _ :: _ => none

end MP
set_option autoImplicit false
namespace MP

mutual
def D.same : D → D → Bool
  | .non, .non => true
  | .bl a, .bl b => a == b
  | .int i, .int j => i == j
  | .str x, .str y => x == y
  | .lst xs, .lst ys => D.sameAll xs ys
  | .tup xs, .tup ys => D.sameAll xs ys
  | .obj i, .obj j => i == j
  | _, _ => false
def D.sameAll : List D → List D → Bool
  | [], [] => true
  | x :: xs, y :: ys => D.same x y && D.sameAll xs ys
  | _, _ => false
end

mutual
/-- a bound of the length of its repr; 0 where there is none -/
def D.wide : D → Nat
  | .non => 4
  | .bl _ => 5
  | .int i => if i.natAbs < 10 ^ 40 then 41 else line + 1
  | .str s => 10 * s.length + 2
  | .tup l => D.wideAll l + 3
  | .lst l => D.wideAll l + 3
  | .dct _ _ _ => line + 1
  | .obj _ => line + 1
  | .opq => line + 1
def D.wideAll : List D → Nat
  | [] => 0
  | d :: r => D.wide d + 2 + D.wideAll r
end

def maxLoops : Nat := 1000000

/-- what an iteration walks -/
inductive Sq where
  | vals (l : List D)
  | live (i : Nat)
  | keys (i : Nat)

def okLen (l : List D) : Bool := decide (l.length ≤ line)
def seqOf (d : D) (m : Mem) : R Sq :=
  match d with
  | .tup l => .ok (.vals l) m
  | .lst l => .ok (.vals l) m
  | .str s => .ok (.vals (s.map fun c => .str [c])) m
  | .obj i => match m[i]? with
    | some (.lst _) => .ok (.live i) m
    | _ => .stop
  | _ => .stop

def intRange (a b : Int) : List D := (List.range (b - a).toNat).map fun (n : Nat) => .int (a + (n : Int))
def enumFrom : Nat → List D → List D
  | _, [] => []
  | n, d :: r => .tup [.int n, d] :: enumFrom (n + 1) r
def small62 (i : Int) : Bool := decide (-(2 ^ 62) ≤ i ∧ i < 2 ^ 62)

/-- the items of a list, changed or not -/
def itemsOf (d : D) (m : Mem) : Option (List D) :=
  match d with
  | .lst l => some l
  | .obj i => (match m[i]? with
    | some (.lst l) => some l
    | _ => none)
  | _ => none
def showOk (d : D) : Bool := D.pure d && decide (D.depth d ≤ 64) && decide (D.wide d ≤ line)
def reprEqD (n : Bool) (a b : D) (m : Mem) : R D := if D.same a b && showOk a then .ok (.bl (!n)) m else .stop
def reprNilD (n : Bool) (a : D) (m : Mem) : R D :=
  if showOk a then (match a with
    | .tup [] => .ok (.bl (!n)) m
    | .tup (_ :: _) => .ok (.bl n) m
    | .non => .ok (.bl n) m
    | .bl _ => .ok (.bl n) m
    | .int i => if intText i == [40, 41] then .stop else .ok (.bl n) m
    | _ => .stop) else .stop

def binD (o : Bop) (a b : D) (m : Mem) : R D :=
  match o, a, b with
  | .add, .int i, .int j => .ok (.int (i + j)) m
  | .sub, .int i, .int j => .ok (.int (i - j)) m
  | .mul, .int i, .int j =>
    if (decide (-(2 ^ 64) < i ∧ i < 2 ^ 64) || decide (-(2 ^ 64) < j ∧ j < 2 ^ 64)) then .ok (.int (i * j)) m else .stop
  | .fdiv, .int i, .int j => if decide (0 < j ∧ j < 1073741824) then .ok (.int (i / j)) m else .stop
  | .mod, .int i, .int j => if decide (0 < j) then .ok (.int (i % j)) m else .stop
  | .pow, .int i, .int j => if decide (0 ≤ j ∧ j ≤ 1000 ∧ i.natAbs < 2 ^ 64) then .ok (.int (i ^ j.toNat)) m else .stop
  | .add, .str x, .str y => if decide (x.length + y.length ≤ line) then .ok (.str (x ++ y)) m else .stop
  | .add, .tup x, .tup y => if decide (x.length + y.length ≤ line) then .ok (.tup (x ++ y)) m else .stop
  | .add, a, b => (match itemsOf a m, itemsOf b m with
    | some x, some y => if decide (x.length + y.length ≤ line) then .ok (.lst (x ++ y)) m else .stop
    | _, _ => .stop)
  | _, _, _ => .stop

def memD (a b : D) (m : Mem) : Option Bool :=
  match b with
  | .tup l => if flat a && l.all flat then some (l.any fun x => flatEq x a) else none
  | .lst l => if flat a && l.all flat then some (l.any fun x => flatEq x a) else none
  | .dct tk ks vs => if isKey a && isTupKey a == tk then some (look2 a ks vs).isSome else none
  | .obj i => match m[i]? with
    | some (.dct tk kv _) => if isKey a && isTupKey a == tk then some (lookK a kv).isSome else none
    | some (.lst l) => if flat a && l.all flat then some (l.any fun x => flatEq x a) else none
    | none => none
  | _ => none

def cmpD (o : Cop) (a b : D) (m : Mem) : R D :=
  match o with
  | .eq => if D.pure a && D.pure b && decide (Nat.min (D.depth a) (D.depth b) ≤ 64) then .ok (.bl (eqv a b)) m else .stop
  | .ne => if D.pure a && D.pure b && decide (Nat.min (D.depth a) (D.depth b) ≤ 64) then .ok (.bl (!eqv a b)) m else .stop
  | .lt => match a, b with | .int i, .int j => .ok (.bl (decide (i < j))) m | _, _ => .stop
  | .le => match a, b with | .int i, .int j => .ok (.bl (decide (i ≤ j))) m | _, _ => .stop
  | .gt => match a, b with | .int i, .int j => .ok (.bl (decide (j < i))) m | _, _ => .stop
  | .ge => match a, b with | .int i, .int j => .ok (.bl (decide (j ≤ i))) m | _, _ => .stop
  | .mem => match memD a b m with | some c => .ok (.bl c) m | none => .stop
  | .nmem => match memD a b m with | some c => .ok (.bl (!c)) m | none => .stop

def ixD (a i : D) (m : Mem) : R D :=
  match a, i with
  | .tup l, .int n => match idx? l n with | some d => .ok d m | none => .stop
  | .lst l, .int n => match idx? l n with | some d => .ok d m | none => .stop
  | .str s, .int n => if decide (s.length ≤ line) then (match idx? (s.map fun c => .str [c]) n with | some d => .ok d m | none => .stop) else .stop
  | .dct tk ks vs, k => if isKey k && isTupKey k == tk then (match look2 k ks vs with | some d => .ok d m | none => .stop) else .stop
  | .obj o, k => match m[o]? with
    | some (.lst l) => (match k with | .int n => (match idx? l n with | some d => .ok d m | none => .stop) | _ => .stop)
    | some (.dct tk kv _) => if isKey k && isTupKey k == tk then (match lookK k kv with | some d => .ok d m | none => .stop) else .stop
    | none => .stop
  | _, _ => .stop

def slD (a : D) (lo hi : Option Int) (m : Mem) : R D :=
  match a with
  | .tup l => .ok (.tup (cut l lo hi)) m
  | .lst l => .ok (.lst (cut l lo hi)) m
  | _ => .stop
def boundOf : List D → Option (Option Int)
  | [] => some none
  | [.int i] => some (some i)
  | _ => none

def isD (d : D) (t : Ty) (m : Mem) : Option Bool :=
  match d, t with
  | .int _, .int => some true
  | .bl _, .int => some true
  | .bl _, .bool => some true
  | .str _, .str => some true
  | .tup _, .tuple => some true
  | .lst _, _ => none
  | .dct _ _ _, _ => none
  | .opq, _ => none
  | .obj i, t => (match m[i]? with
    | some (.lst _) => some (t == .list)
    | some (.dct _ _ false) => some (t == .dict)
    | _ => none)
  | _, _ => some false

def pairsOf (kv : List (D × D)) : List D := kv.map fun p => .tup [p.1, p.2]

def biD (b : Bi) (args : List D) (m : Mem) : R D :=
  match b, args with
  | .len, [.str s] => if decide (s.length ≤ line) then .ok (.int s.length) m else .stop
  | .len, [.tup l] => .ok (.int l.length) m
  | .len, [.lst l] => .ok (.int l.length) m
  | .len, [.obj i] => (match m[i]? with
    | some (.lst l) => .ok (.int l.length) m
    | some (.dct false kv _) => .ok (.int kv.length) m
    | some (.dct true _ _) => .stop
    | none => .stop)
  | .int, [.int i] => .ok (.int i) m
  | .int, [.bl b] => .ok (.int (b2i b)) m
  | .str, [.int i] => if decide (i.natAbs < 10 ^ 40) then .ok (.str (intText i)) m else .stop
  | .tuple, [.tup l] => .ok (.tup l) m
  | .tuple, [.lst l] => .ok (.tup l) m
  | .tuple, [.obj i] => (match m[i]? with
    | some (.lst l) => .ok (.tup l) m
    | _ => .stop)
  | .listV, [.lst l] => .ok (.lst l) m
  | .listV, [.tup l] => .ok (.lst l) m
  | .listV, [.obj i] => (match m[i]? with
    | some (.lst l) => .ok (.lst l) m
    | some (.dct false kv false) => .ok (.lst (kv.map (·.1))) m
    | _ => .stop)
  | .items, [.obj i] => (match m[i]? with
    | some (.dct false kv false) => .ok (.lst (pairsOf kv)) m
    | _ => .stop)
  | .sorted, [.lst l] => (match asStrs l with
    | some ss => .ok (.lst ((sortS ss).map .str)) m
    | none => .stop)
  | .min, [.int i, .int j] => .ok (.int (if j < i then j else i)) m
  | .max, [.int i, .int j] => .ok (.int (if j > i then j else i)) m
  | _, _ => .stop

def meD (e : Me) (o : D) (args : List D) (m : Mem) : R D :=
  match o with
  | .obj i => (match m[i]?, e, args with
    | some (.lst l), .append, [d] => if decide (l.length < line) then .ok .non (m.set i (.lst (l ++ [d]))) else .stop
    | some (.lst l), .extend, [.lst r] => if decide (l.length + r.length ≤ line) then .ok .non (m.set i (.lst (l ++ r))) else .stop
    | some (.lst l), .extend, [.tup r] => if decide (l.length + r.length ≤ line) then .ok .non (m.set i (.lst (l ++ r))) else .stop
    | some (.lst l), .pop, [] => (match l.getLast? with | some d => .ok d (m.set i (.lst l.dropLast)) | none => .stop)
    | _, _, _ => .stop)
  | _ => .stop

def setixD (o k d : D) (m : Mem) : Option Mem :=
  match o with
  | .obj i => match m[i]? with
    | some (.dct tk kv false) => if isKey k && isTupKey k == tk && decide (kv.length < line) then some (m.set i (.dct tk (putK k d kv) false)) else none
    | some (.lst l) => (match k with
      | .int n => if decide (0 ≤ n ∧ n.toNat < l.length) then some (m.set i (.lst (l.set n.toNat d))) else none
      | _ => none)
    | _ => none
  | _ => none

/-- a target takes a value -/
def tgt (t : Tg) (d : D) (r : Env) : Option Env :=
  match t with
  | .v i => some (r.set i (some d))
  | .tup is => match d with
    | .tup ds => if is.length = ds.length then some ((is.zip ds).foldl (fun r p => r.set p.1 (some p.2)) r) else none
    | _ => none
def wipeE (r : Env) : List Nat → Env
  | [] => r
  | v :: vs => (wipeE r vs).set v none

/-- a comprehension's loop over given items -/
def compL (t : Tg) (r : Env) (ok : Env → Mem → R Bool) (f : Env → Mem → R D) : List D → List D → Mem → R (List D)
  | [], acc, m => .ok acc m
  | d :: l, acc, m => match tgt t d r with
    | none => .stop
    | some r1 => match ok r1 m with
      | .stop => .stop
      | .ok false m1 => compL t r ok f l acc m1
      | .ok true m1 => match f r1 m1 with
        | .stop => .stop
        | .ok x m2 => if acc.length < line then compL t r ok f l (acc ++ [x]) m2 else .stop
/-- .. over a list that may change -/
def compLive (t : Tg) (r : Env) (ok : Env → Mem → R Bool) (f : Env → Mem → R D) (o : Nat) : Nat → Nat → List D → Mem → R (List D)
  | 0, _, _, _ => .stop
  | n + 1, i, acc, m => match m[o]? with
    | some (.lst l) => (match l[i]? with
      | none => .ok acc m
      | some d => match tgt t d r with
        | none => .stop
        | some r1 => match ok r1 m with
          | .stop => .stop
          | .ok false m1 => compLive t r ok f o n (i + 1) acc m1
          | .ok true m1 => match f r1 m1 with
            | .stop => .stop
            | .ok x m2 => if acc.length < line then compLive t r ok f o n (i + 1) (acc ++ [x]) m2 else .stop)
    | _ => .stop
/-- a for's loop over given items -/
def forL (t : Tg) (f : Env → Mem → O) : List D → Env → Mem → O
  | [], r, m => .nx r m
  | d :: l, r, m => match tgt t d r with
    | none => .stop
    | some r1 => match f r1 m with
      | .nx r2 m2 => forL t f l r2 m2
      | .ct r2 m2 => forL t f l r2 m2
      | .bk r2 m2 => .nx r2 m2
      | .rt d m2 => .rt d m2
      | .stop => .stop
def forLive (t : Tg) (f : Env → Mem → O) (o : Nat) : Nat → Nat → Env → Mem → O
  | 0, _, _, _ => .stop
  | n + 1, i, r, m => match m[o]? with
    | some (.lst l) => (match l[i]? with
      | none => .nx r m
      | some d => match tgt t d r with
        | none => .stop
        | some r1 => match f r1 m with
          | .nx r2 m2 => forLive t f o n (i + 1) r2 m2
          | .ct r2 m2 => forLive t f o n (i + 1) r2 m2
          | .bk r2 m2 => .nx r2 m2
          | .rt d m2 => .rt d m2
          | .stop => .stop)
    | _ => .stop
def whileL (c : Env → Mem → R Bool) (f : Env → Mem → O) : Nat → Env → Mem → O
  | 0, _, _ => .stop
  | n + 1, r, m => match c r m with
    | .stop => .stop
    | .ok false m1 => .nx r m1
    | .ok true m1 => match f r m1 with
      | .nx r2 m2 => whileL c f n r2 m2
      | .ct r2 m2 => whileL c f n r2 m2
      | .bk r2 m2 => .nx r2 m2
      | .rt d m2 => .rt d m2
      | .stop => .stop

def lock (b : Bool) (i : Nat) (m : Mem) : Mem :=
  match m[i]? with
  | some (.dct tk kv _) => m.set i (.dct tk kv b)
  | _ => m
def testOf (r : R D) : R Bool :=
  match r with
  | .ok d m => match truth d m with | some b => .ok b m | none => .stop
  | .stop => .stop

abbrev CF := Nat → List D → Mem → R D

mutual
def ev (cf : CF) : Ex → Env → Mem → R D
  | .v i, r, m => match r[i]? with | some (some d) => .ok d m | _ => .stop
  | .k d, _, m => .ok d m
  | .tup l, r, m => match evs cf l r m with
    | .ok ds m1 => if okLen ds then .ok (.tup ds) m1 else .stop
    | .stop => .stop
  | .lst mu l, r, m => match evs cf l r m with
    | .ok ds m1 => if okLen ds then (if mu then .ok (.obj m1.length) (m1 ++ [.lst ds]) else .ok (.lst ds) m1) else .stop
    | .stop => .stop
  | .dct mu tk ks vs, r, m => match evs cf ks r m with
    | .ok kd m1 => (match evs cf vs r m1 with
      | .ok vd m2 => if mu then .ok (.obj m2.length) (m2 ++ [.dct tk (kd.zip vd) false]) else .ok (.dct tk kd vd) m2
      | .stop => .stop)
    | .stop => .stop
  | .ix a i, r, m => match ev cf a r m with
    | .ok x m1 => (match ev cf i r m1 with | .ok y m2 => ixD x y m2 | .stop => .stop)
    | .stop => .stop
  | .sl a lo hi, r, m => match ev cf a r m with
    | .ok x m1 => (match evs cf lo r m1 with
      | .ok l m2 => (match evs cf hi r m2 with
        | .ok h m3 => (match boundOf l, boundOf h with
          | some l', some h' => slD x l' h' m3
          | _, _ => .stop)
        | .stop => .stop)
      | .stop => .stop)
    | .stop => .stop
  | .rev a, r, m => match ev cf a r m with
    | .ok (.tup l) m1 => .ok (.tup l.reverse) m1
    | .ok (.lst l) m1 => .ok (.lst l.reverse) m1
    | _ => .stop
  | .bin o a b, r, m => match ev cf a r m with
    | .ok x m1 => (match ev cf b r m1 with | .ok y m2 => binD o x y m2 | .stop => .stop)
    | .stop => .stop
  | .catM a b, r, m => match ev cf a r m with
    | .ok x m1 => (match ev cf b r m1 with
      | .ok y m2 => (match itemsOf x m2, itemsOf y m2 with
        | some l, some k => if decide (l.length + k.length ≤ line) then .ok (.obj m2.length) (m2 ++ [.lst (l ++ k)]) else .stop
        | _, _ => .stop)
      | .stop => .stop)
    | .stop => .stop
  | .neg a, r, m => match ev cf a r m with
    | .ok (.int i) m1 => .ok (.int (-i)) m1
    | _ => .stop
  | .chain o p a b c, r, m => match ev cf a r m with
    | .ok x m1 => (match ev cf b r m1 with
      | .ok y m2 => (match cmpD o x y m2 with
        | .ok (.bl true) m3 => (match ev cf c r m3 with | .ok z m4 => cmpD p y z m4 | .stop => .stop)
        | .ok (.bl false) m3 => .ok (.bl false) m3
        | _ => .stop)
      | .stop => .stop)
    | .stop => .stop
  | .reprEq n a b, r, m => match ev cf a r m with
    | .ok x m1 => (match ev cf b r m1 with | .ok y m2 => reprEqD n x y m2 | .stop => .stop)
    | .stop => .stop
  | .reprNil n a, r, m => match ev cf a r m with
    | .ok x m1 => reprNilD n x m1
    | .stop => .stop
  | .cmp o a b, r, m => match ev cf a r m with
    | .ok x m1 => (match ev cf b r m1 with | .ok y m2 => cmpD o x y m2 | .stop => .stop)
    | .stop => .stop
  | .isN a, r, m => match ev cf a r m with
    | .ok .non m1 => .ok (.bl true) m1
    | .ok .opq _ => .stop
    | .ok _ m1 => .ok (.bl false) m1
    | .stop => .stop
  | .notN a, r, m => match ev cf a r m with
    | .ok .non m1 => .ok (.bl false) m1
    | .ok .opq _ => .stop
    | .ok _ m1 => .ok (.bl true) m1
    | .stop => .stop
  | .not a, r, m => match testOf (ev cf a r m) with
    | .ok b m1 => .ok (.bl (!b)) m1
    | .stop => .stop
  | .and a b, r, m => match ev cf a r m with
    | .ok x m1 => (match truth x m1 with
      | some true => ev cf b r m1
      | some false => .ok x m1
      | none => .stop)
    | .stop => .stop
  | .or a b, r, m => match ev cf a r m with
    | .ok x m1 => (match truth x m1 with
      | some true => .ok x m1
      | some false => ev cf b r m1
      | none => .stop)
    | .stop => .stop
  | .ite t a b, r, m => match testOf (ev cf t r m) with
    | .ok true m1 => ev cf a r m1
    | .ok false m1 => ev cf b r m1
    | .stop => .stop
  | .call f args, r, m => match evs cf args r m with
    | .ok ds m1 => cf f ds m1
    | .stop => .stop
  | .bi b args, r, m => match evs cf args r m with
    | .ok ds m1 => biD b ds m1
    | .stop => .stop
  | .isin a t, r, m => match ev cf a r m with
    | .ok x m1 => (match isD x t m1 with | some b => .ok (.bl b) m1 | none => .stop)
    | .stop => .stop
  | .me e o args, r, m => match ev cf o r m with
    | .ok (.obj i) m1 => (match m1[i]? with
      | some (.lst _) => (match evs cf args r m1 with | .ok ds m2 => meD e (.obj i) ds m2 | .stop => .stop)
      | _ => .stop)
    | _ => .stop
  | .comp mu own t it test elt, r, m => match evIt cf it r m with
    | .ok (.vals l) m1 =>
      (match compL t (wipeE r own) (fun r m => evTests cf test r m) (fun r m => ev cf elt r m) l [] m1 with
        | .ok ds m2 => if mu then .ok (.obj m2.length) (m2 ++ [.lst ds]) else .ok (.lst ds) m2
        | .stop => .stop)
    | .ok (.live o) m1 =>
      (match compLive t (wipeE r own) (fun r m => evTests cf test r m) (fun r m => ev cf elt r m) o maxLoops 0 [] m1 with
        | .ok ds m2 => if mu then .ok (.obj m2.length) (m2 ++ [.lst ds]) else .ok (.lst ds) m2
        | .stop => .stop)
    | .ok (.keys o) m1 => (match m1[o]? with
      | some (.dct tk kv false) =>
        (match compL t (wipeE r own) (fun r m => evTests cf test r m) (fun r m => ev cf elt r m) (kv.map (·.1)) [] (lock true o m1) with
          | .ok ds m2 => if mu then .ok (.obj m2.length) (lock false o m2 ++ [.lst ds]) else .ok (.lst ds) (lock false o m2)
          | .stop => .stop)
      | _ => .stop)
    | .stop => .stop
  | .dcomp own t it key val, r, m => match evIt cf it r m with
    | .ok (.vals l) m1 =>
      (match compL t (wipeE r own) (fun _ m => .ok true m) (fun r m => match ev cf key r m with
          | .ok x m1 => if isKey x && isTupKey x then (match ev cf val r m1 with | .ok y m2 => .ok (.tup [x, y]) m2 | .stop => .stop) else .stop
          | .stop => .stop) l [] m1 with
        | .ok _ m2 => .ok .opq m2
        | .stop => .stop)
    | _ => .stop
def evs (cf : CF) : List Ex → Env → Mem → R (List D)
  | [], _, m => .ok [] m
  | e :: l, r, m => match ev cf e r m with
    | .ok d m1 => (match evs cf l r m1 with | .ok ds m2 => .ok (d :: ds) m2 | .stop => .stop)
    | .stop => .stop
def evTests (cf : CF) : List Ex → Env → Mem → R Bool
  | [], _, m => .ok true m
  | e :: l, r, m => match testOf (ev cf e r m) with
    | .ok true m1 => evTests cf l r m1
    | .ok false m1 => .ok false m1
    | .stop => .stop
def evIt (cf : CF) : It → Env → Mem → R Sq
  | .seq e, r, m => match ev cf e r m with
    | .ok d m1 => seqOf d m1
    | .stop => .stop
  | .range1 b, r, m => match ev cf b r m with
    | .ok (.int j) m1 => if small62 j then .ok (.vals (intRange 0 j)) m1 else .stop
    | _ => .stop
  | .range2 a b, r, m => match ev cf a r m with
    | .ok (.int i) m1 => (match ev cf b r m1 with
      | .ok (.int j) m2 => if small62 i && small62 j then .ok (.vals (intRange i j)) m2 else .stop
      | _ => .stop)
    | _ => .stop
  | .keys i, r, m => match r[i]? with
    | some (some (.obj o)) => (match m[o]? with
      | some (.dct _ _ false) => .ok (.keys o) m
      | _ => .stop)
    | _ => .stop
  | .enum e, r, m => match ev cf e r m with
    | .ok (.tup l) m1 => .ok (.vals (enumFrom 0 l)) m1
    | .ok (.lst l) m1 => .ok (.vals (enumFrom 0 l)) m1
    | _ => .stop
end

def setAll (is : List Nat) (ds : List D) (r : Env) : Env := (is.zip ds).foldl (fun r p => r.set p.1 (some p.2)) r

mutual
def evS (cf : CF) : St → Env → Mem → O
  | .set i e, r, m => match ev cf e r m with
    | .ok d m1 => .nx (r.set i (some d)) m1
    | .stop => .stop
  | .par is es, r, m => match evs cf es r m with
    | .ok ds m1 => if is.length = ds.length then .nx (setAll is ds r) m1 else .stop
    | .stop => .stop
  | .unp is e, r, m => match ev cf e r m with
    | .ok (.tup ds) m1 => if is.length = ds.length then .nx (setAll is ds r) m1 else .stop
    | _ => .stop
  | .setix o k e, r, m => match ev cf e r m with
    | .ok d m1 => (match ev cf o r m1 with
      | .ok x m2 => (match ev cf k r m2 with
        | .ok y m3 => (match setixD x y d m3 with | some m4 => .nx r m4 | none => .stop)
        | .stop => .stop)
      | .stop => .stop)
    | .stop => .stop
  | .ex e, r, m => match ev cf e r m with
    | .ok _ m1 => .nx r m1
    | .stop => .stop
  | .ite t a b, r, m => match testOf (ev cf t r m) with
    | .ok true m1 => evSs cf a r m1
    | .ok false m1 => evSs cf b r m1
    | .stop => .stop
  | .for t it body, r, m => match evIt cf it r m with
    | .ok (.vals l) m1 => forL t (fun r m => evSs cf body r m) l r m1
    | .ok (.live o) m1 => forLive t (fun r m => evSs cf body r m) o maxLoops 0 r m1
    | _ => .stop
  | .while t body, r, m => whileL (fun r m => testOf (ev cf t r m)) (fun r m => evSs cf body r m) maxLoops r m
  | .ret e, r, m => match ev cf e r m with
    | .ok d m1 => .rt d m1
    | .stop => .stop
  | .ret0, _, m => .rt .non m
  | .brk, r, m => .bk r m
  | .cont, r, m => .ct r m
  | .pass, r, m => .nx r m
def evSs (cf : CF) : List St → Env → Mem → O
  | [], r, m => .nx r m
  | s :: l, r, m => match evS cf s r m with
    | .nx r1 m1 => evSs cf l r1 m1
    | o => o
end

structure Fn where
  arity : Nat
  slots : Nat
  code : List St

def runFn (cf : CF) (f : Fn) (args : List D) (m : Mem) : R D :=
  if args.length = f.arity then
    match evSs cf f.code (args.map some ++ List.replicate (f.slots - f.arity) none) m with
    | .nx _ m1 => .ok .non m1
    | .rt d m1 => .ok d m1
    | _ => .stop
  else .stop

def callN (T : List Fn) : Nat → CF
  | 0 => fun _ _ _ => .stop
  | n + 1 => fun f args m => match T[f]? with
    | some fn => runFn (callN T n) fn args m
    | none => .stop

end MP
set_option Elab.async false
set_option linter.all false
set_option maxRecDepth 100000
set_option autoImplicit false
namespace MP
open PySem L2

/-- ours: what Mem holds, by place; what is being made -/
structure Al where
  objs : List Addr
  res : List Addr
instance : Membership Addr Al := ⟨fun al p => p ∈ al.objs ∨ p ∈ al.res⟩
def Al.reg (al : Al) (p : Addr) : Al := ⟨al.objs ++ [p], al.res⟩
theorem Al.mem_iff {al : Al} {p : Addr} : p ∈ al ↔ p ∈ al.objs ∨ p ∈ al.res := Iff.rfl
abbrev Fr := PySem.W.Frag

/-! ### keys -/
def kD : Key → D
  | .inl i => .int i
  | .inr x => .str x.cps.toList
def tD (ks : List Key) : D := .tup (ks.map kD)
def keyOk : Key → Prop
  | .inl _ => True
  | .inr x => PyData.strOk x = true

/-! ### what a datum is in the heap -/
/-- a list at p that none of ours changes -/
def SL (K : Fr) (H : Hp) (al : Al) (p : Addr) (vs : List V) : Prop :=
  (Rd H p (.lst vs) ∧ p ∉ al) ∨
    ∃ (o : Obj) (its : Array Value) (n : Nat), K.lookup p = some o ∧ o.cls = .type "list" ∧ o.dict = none ∧ o.data = .seq its n ∧ its.size ≤ sizeLine ∧ Vals vs its.toList
theorem SL.seq {K : Fr} {H : Hp} {al : Al} {p : Addr} {vs : List V} (h : SL K H al p vs) : SqL K H p vs := by
  rcases h with ⟨h, _⟩ | h
  · exact .inl h
  · exact .inr h
/-- a dict, its keys and values -/
def DictIs (tk : Bool) (u : HO) (ks : List D) (us : List V) : Prop :=
  match tk with
  | false => ∃ kvs : List (Key × V), u = .dK kvs ∧ kvs.map (fun q => kD q.1) = ks ∧ kvs.map (·.2) = us ∧ ∀ q ∈ kvs, keyOk q.1
  | true => ∃ kvs : List (List Key × V), u = .dT kvs ∧ kvs.map (fun q => tD q.1) = ks ∧ kvs.map (·.2) = us ∧ ∀ q ∈ kvs, ∀ k ∈ q.1, keyOk k
/-- neither a tuple nor locked -/
def NoT (u : HO) : Prop := (∀ vs, u ≠ .tup vs) ∧ ∀ ob w, u ≠ .frz ob w
theorem NoT.lst (vs : List V) : NoT (.lst vs) := ⟨fun _ z => (by cases z), fun _ _ z => (by cases z)⟩
theorem DictIs.not {tk : Bool} {u : HO} {ks : List D} {us : List V} (h : DictIs tk u ks us) : NoT u := by
  cases tk <;> (obtain ⟨_, q, _⟩ := h; rw [q]; exact ⟨fun _ z => (by cases z), fun _ _ z => (by cases z)⟩)
theorem DictIs.no {tk : Bool} {u : HO} {ks : List D} {us : List V} (h : DictIs tk u ks us) : ∀ vs, u ≠ .tup vs := fun vs z => by
  cases tk <;> (obtain ⟨_, q, _⟩ := h; rw [q] at z; cases z)

mutual
def RepV (K : Fr) (H : Hp) (al : Al) : D → V → Prop
  | .non, v => v = .non
  | .bl b, v => v = .bl b
  | .int i, v => v = .int i
  | .str s, v => v = .str ⟨s.toArray⟩ ∧ PyData.strOk ⟨s.toArray⟩ = true
  | .tup l, v => ∃ p vs, v = .ref p ∧ H p = some (.tup vs) ∧ RepVs K H al l vs
  | .lst l, v => ∃ p vs, v = .ref p ∧ SL K H al p vs ∧ RepVs K H al l vs
  | .dct tk ks l, v => ∃ p u us, v = .ref p ∧ p ∉ al ∧ Rd H p u ∧ DictIs tk u ks us ∧ RepVs K H al l us
  | .obj i, v => ∃ a, al.objs[i]? = some a ∧ v = .ref a
  | .opq, _ => True
def RepVs (K : Fr) (H : Hp) (al : Al) : List D → List V → Prop
  | [], vs => vs = []
  | d :: r, vs => ∃ v us, vs = v :: us ∧ RepV K H al d v ∧ RepVs K H al r us
end

def RepO (K : Fr) (H : Hp) (al : Al) (o : MO) (a : Addr) : Prop :=
  match o with
  | .lst ds => ∃ vs, H a = some (.lst vs) ∧ RepVs K H al ds vs
  | .dct tk kv lck => ∃ u us, (if lck = true then ∃ ob, H a = some (.frz ob u) else H a = some u) ∧ DictIs tk u (kv.map (·.1)) us ∧ RepVs K H al (kv.map (·.2)) us

structure RepM (K : Fr) (H : Hp) (al : Al) (M : Mem) : Prop where
  len : al.objs.length = M.length
  nd : al.objs.Nodup
  at_ : ∀ (i : Nat) o, M[i]? = some o → ∃ a, al.objs[i]? = some a ∧ RepO K H al o a
  rs : ∀ q ∈ al.res, H q ≠ none ∧ q ∉ al.objs

/-- what stays from one heap to a later one, what is being made apart -/
structure Ext0 (H : Hp) (al : Al) (H' : Hp) (al' : Al) : Prop where
  more : ∃ be, al'.objs = al.objs ++ be ∧ ∀ q ∈ be, H q = none
  res : al'.res = al.res
  out : ∀ q u, H q = some u → q ∉ al → H' q = some u
  live : ∀ q u, H q = some u → H' q ≠ none
  tup : ∀ q vs, H q = some (.tup vs) → H' q = some (.tup vs)
  frz : ∀ q ob u, H q = some (.frz ob u) → H' q = some (.frz ob u)
structure Ext (H : Hp) (al : Al) (H' : Hp) (al' : Al) : Prop extends Ext0 H al H' al' where
  kept : ∀ q ∈ al.res, H' q = H q

theorem Ext0.refl (H : Hp) (al : Al) : Ext0 H al H al := ⟨⟨[], by simp⟩, rfl, fun _ _ h _ => h, fun q u h z => (by rw [h] at z; cases z), fun _ _ h => h, fun _ _ _ h => h⟩
theorem Ext.refl (H : Hp) (al : Al) : Ext H al H al := ⟨Ext0.refl H al, fun _ _ => rfl⟩
theorem Ext0.stay {H H1 : Hp} {al al1 : Al} (x : Ext0 H al H1 al1) {p : Addr} {w : HO} (hw : H p = some w) (hn : p ∉ al) : p ∉ al1 := by
  obtain ⟨be, e, hb⟩ := x.more
  rintro (hm | hm)
  · rw [e] at hm
    rcases List.mem_append.mp hm with h' | h'
    · exact hn (.inl h')
    · rw [hb p h'] at hw; cases hw
  · rw [x.res] at hm
    exact hn (.inr hm)
theorem Ext0.trans {H H1 H2 : Hp} {al al1 al2 : Al} (a : Ext0 H al H1 al1) (b : Ext0 H1 al1 H2 al2) : Ext0 H al H2 al2 := by
  obtain ⟨be, e, hb⟩ := a.more
  obtain ⟨be2, e2, hb2⟩ := b.more
  refine ⟨⟨be ++ be2, by rw [e2, e, List.append_assoc], fun q hq => ?_⟩, b.res.trans a.res, fun q u h hn => b.out q u (a.out q u h hn) (a.stay h hn), fun q u h z => ?_, fun q vs h => b.tup q vs (a.tup q vs h), fun q ob u h => b.frz q ob u (a.frz q ob u h)⟩
  · rcases List.mem_append.mp hq with h | h
    · exact hb q h
    · cases e : H q with
      | none => rfl
      | some u => exact absurd (hb2 q h) (a.live q u e)
  · cases e : H1 q with
    | none => exact a.live q u h e
    | some w => exact b.live q w e z
theorem Ext.trans {H H1 H2 : Hp} {al al1 al2 : Al} (a : Ext H al H1 al1) (b : Ext H1 al1 H2 al2) : Ext H al H2 al2 :=
  ⟨a.toExt0.trans b.toExt0, fun q hq => (b.kept q (by rw [a.res]; exact hq)).trans (a.kept q hq)⟩
theorem Ext0.rd {H H1 : Hp} {al al1 : Al} (x : Ext0 H al H1 al1) {p : Addr} {u : HO} (h : Rd H p u) (hn : p ∉ al) : Rd H1 p u ∧ p ∉ al1 := by
  rcases h with h | ⟨o, h⟩
  · exact ⟨.inl (x.out p _ h hn), x.stay h hn⟩
  · exact ⟨.inr ⟨o, x.out p _ h hn⟩, x.stay h hn⟩
theorem Ext0.sl {K : Fr} {H H1 : Hp} {al al1 : Al} (x : Ext0 H al H1 al1) {p : Addr} {vs : List V} (h : SL K H al p vs) : SL K H1 al1 p vs := by
  rcases h with ⟨h, hn⟩ | h
  · exact .inl (x.rd h hn)
  · exact .inr h

mutual
theorem RepV.ext0 {K : Fr} {H H1 : Hp} {al al1 : Al} (x : Ext0 H al H1 al1) : ∀ (d : D) (v : V), RepV K H al d v → RepV K H1 al1 d v
  | .non, v, h => by simpa only [RepV] using h
  | .bl b, v, h => by simpa only [RepV] using h
  | .int i, v, h => by simpa only [RepV] using h
  | .str s, v, h => by simpa only [RepV] using h
  | .tup l, v, h => by
    simp only [RepV] at h ⊢
    obtain ⟨p, vs, e, h1, h2⟩ := h
    exact ⟨p, vs, e, x.tup p vs h1, RepVs.ext0 x l vs h2⟩
  | .lst l, v, h => by
    simp only [RepV] at h ⊢
    obtain ⟨p, vs, e, h1, h2⟩ := h
    exact ⟨p, vs, e, x.sl h1, RepVs.ext0 x l vs h2⟩
  | .dct tk ks l, v, h => by
    simp only [RepV] at h ⊢
    obtain ⟨p, u, us, e, hn, h1, h2, h3⟩ := h
    exact ⟨p, u, us, e, (x.rd h1 hn).2, (x.rd h1 hn).1, h2, RepVs.ext0 x l us h3⟩
  | .obj i, v, h => by
    simp only [RepV] at h ⊢
    obtain ⟨a, h1, h2⟩ := h
    obtain ⟨be, e, _⟩ := x.more
    refine ⟨a, ?_, h2⟩
    rw [e]
    rw [List.getElem?_append_left (List.getElem?_eq_some_iff.mp h1).1]
    exact h1
  | .opq, _, _ => by simp only [RepV]
theorem RepVs.ext0 {K : Fr} {H H1 : Hp} {al al1 : Al} (x : Ext0 H al H1 al1) : ∀ (l : List D) (vs : List V), RepVs K H al l vs → RepVs K H1 al1 l vs
  | [], vs, h => by simpa only [RepVs] using h
  | d :: r, vs, h => by
    simp only [RepVs] at h ⊢
    obtain ⟨v, us, e, h1, h2⟩ := h
    exact ⟨v, us, e, RepV.ext0 x d v h1, RepVs.ext0 x r us h2⟩
end

theorem RepV.ext {K : Fr} {H H1 : Hp} {al al1 : Al} (x : Ext H al H1 al1) (d : D) (v : V) (h : RepV K H al d v) : RepV K H1 al1 d v := RepV.ext0 x.toExt0 d v h
theorem RepVs.ext {K : Fr} {H H1 : Hp} {al al1 : Al} (x : Ext H al H1 al1) (d : List D) (v : List V) (h : RepVs K H al d v) : RepVs K H1 al1 d v := RepVs.ext0 x.toExt0 d v h
theorem RepVs.length {K : Fr} {H : Hp} {al : Al} : ∀ {l : List D} {vs : List V}, RepVs K H al l vs → vs.length = l.length
  | [], vs, h => by simp only [RepVs] at h; rw [h]; rfl
  | d :: r, vs, h => by
    simp only [RepVs] at h
    obtain ⟨v, us, e, _, h2⟩ := h
    rw [e, List.length_cons, List.length_cons, RepVs.length h2]
theorem RepVs.get {K : Fr} {H : Hp} {al : Al} : ∀ {l : List D} {vs : List V} {i : Nat} {d : D}, RepVs K H al l vs → l[i]? = some d → ∃ v, vs[i]? = some v ∧ RepV K H al d v
  | [], vs, i, d, h, e => by simp at e
  | a :: r, vs, 0, d, h, e => by
    simp only [RepVs] at h
    obtain ⟨v, us, rfl, h1, _⟩ := h
    simp at e; subst e
    exact ⟨v, rfl, h1⟩
  | a :: r, vs, i + 1, d, h, e => by
    simp only [RepVs] at h
    obtain ⟨v, us, rfl, _, h2⟩ := h
    obtain ⟨w, e1, e2⟩ := RepVs.get (i := i) h2 (by simpa using e)
    exact ⟨w, by simpa using e1, e2⟩
theorem RepVs.append {K : Fr} {H : Hp} {al : Al} : ∀ {l k : List D} {vs us : List V}, RepVs K H al l vs → RepVs K H al k us → RepVs K H al (l ++ k) (vs ++ us)
  | [], k, vs, us, h, h' => by simp only [RepVs] at h; subst h; exact h'
  | d :: r, k, vs, us, h, h' => by
    simp only [RepVs] at h
    obtain ⟨v, ws, rfl, h1, h2⟩ := h
    show RepVs K H al (d :: (r ++ k)) (v :: (ws ++ us))
    simp only [RepVs]
    exact ⟨v, _, rfl, h1, RepVs.append h2 h'⟩
theorem RepVs.take {K : Fr} {H : Hp} {al : Al} : ∀ (n : Nat) {l : List D} {vs : List V}, RepVs K H al l vs → RepVs K H al (l.take n) (vs.take n)
  | 0, l, vs, h => by simp only [List.take_zero, RepVs]
  | n + 1, [], vs, h => by simp only [RepVs] at h; subst h; simp only [List.take_nil, RepVs]
  | n + 1, d :: r, vs, h => by
    simp only [RepVs] at h
    obtain ⟨v, us, rfl, h1, h2⟩ := h
    simp only [List.take_succ_cons, RepVs]
    exact ⟨v, _, rfl, h1, RepVs.take n h2⟩
theorem RepVs.drop {K : Fr} {H : Hp} {al : Al} : ∀ (n : Nat) {l : List D} {vs : List V}, RepVs K H al l vs → RepVs K H al (l.drop n) (vs.drop n)
  | 0, l, vs, h => h
  | n + 1, [], vs, h => by simp only [RepVs] at h; subst h; simp only [List.drop_nil, RepVs]
  | n + 1, d :: r, vs, h => by
    simp only [RepVs] at h
    obtain ⟨v, us, rfl, h1, h2⟩ := h
    exact RepVs.drop n h2
theorem RepVs.set {K : Fr} {H : Hp} {al : Al} {d : D} {v : V} (hv : RepV K H al d v) : ∀ (n : Nat) {l : List D} {vs : List V}, RepVs K H al l vs → RepVs K H al (l.set n d) (vs.set n v)
  | _, [], vs, h => by simp only [RepVs] at h; subst h; simp only [List.set_nil, RepVs]
  | 0, a :: r, vs, h => by
    simp only [RepVs] at h
    obtain ⟨w, us, rfl, h1, h2⟩ := h
    simp only [List.set_cons_zero, RepVs]
    exact ⟨v, us, rfl, hv, h2⟩
  | n + 1, a :: r, vs, h => by
    simp only [RepVs] at h
    obtain ⟨w, us, rfl, h1, h2⟩ := h
    simp only [List.set_cons_succ, RepVs]
    exact ⟨w, _, rfl, h1, RepVs.set hv n h2⟩
theorem RepVs.one {K : Fr} {H : Hp} {al : Al} {d : D} {v : V} (hv : RepV K H al d v) : RepVs K H al [d] [v] := by
  simp only [RepVs]
  exact ⟨v, [], rfl, hv, rfl⟩
theorem RepVs.nil {K : Fr} {H : Hp} {al : Al} : RepVs K H al [] [] := by simp only [RepVs]
theorem RepVs.cons {K : Fr} {H : Hp} {al : Al} {d : D} {v : V} {l : List D} {vs : List V} (hv : RepV K H al d v) (h : RepVs K H al l vs) : RepVs K H al (d :: l) (v :: vs) := by
  simp only [RepVs]
  exact ⟨v, vs, rfl, hv, h⟩
theorem RepVs.reverse {K : Fr} {H : Hp} {al : Al} : ∀ {l : List D} {vs : List V}, RepVs K H al l vs → RepVs K H al l.reverse vs.reverse
  | [], vs, h => by simp only [RepVs] at h; subst h; exact RepVs.nil
  | d :: r, vs, h => by
    simp only [RepVs] at h
    obtain ⟨v, us, rfl, h1, h2⟩ := h
    rw [List.reverse_cons, List.reverse_cons]
    exact RepVs.append (RepVs.reverse h2) (RepVs.one h1)

theorem RepV.mkInt {K : Fr} {H : Hp} {al : Al} (i : Int) : RepV K H al (.int i) (.int i) := by unfold RepV; rfl
theorem RepV.mkBl {K : Fr} {H : Hp} {al : Al} (b : Bool) : RepV K H al (.bl b) (.bl b) := by unfold RepV; rfl
theorem RepV.mkNon {K : Fr} {H : Hp} {al : Al} : RepV K H al .non .non := by unfold RepV; rfl
theorem RepV.mkStr {K : Fr} {H : Hp} {al : Al} {s : List Nat} (h : PyData.strOk ⟨s.toArray⟩ = true) : RepV K H al (.str s) (.str ⟨s.toArray⟩) := by unfold RepV; exact ⟨rfl, h⟩
theorem RepV.mkOpq {K : Fr} {H : Hp} {al : Al} {v : V} : RepV K H al .opq v := by unfold RepV; trivial

theorem RepO.ext0 {K : Fr} {H H1 : Hp} {al al1 : Al} (x : Ext0 H al H1 al1) {o : MO} {a : Addr} (h : RepO K H al o a) (e : ∀ u, H a = some u → H1 a = some u) : RepO K H1 al1 o a := by
  cases o with
  | lst ds =>
    obtain ⟨vs, h1, h2⟩ := h
    exact ⟨vs, e _ h1, RepVs.ext0 x _ _ h2⟩
  | dct tk kv lck =>
    obtain ⟨u, us, h1, h2, h3⟩ := h
    refine ⟨u, us, ?_, h2, RepVs.ext0 x _ _ h3⟩
    cases lck with
    | true =>
      rw [if_pos rfl] at h1 ⊢
      obtain ⟨ob, h1⟩ := h1
      exact ⟨ob, e _ h1⟩
    | false =>
      rw [if_neg Bool.false_ne_true] at h1 ⊢
      exact e _ h1
theorem RepO.some {K : Fr} {H : Hp} {al : Al} {o : MO} {a : Addr} (h : RepO K H al o a) : ∃ u, H a = some u ∧ ∀ vs, u ≠ .tup vs := by
  cases o with
  | lst ds =>
    obtain ⟨vs, h1, _⟩ := h
    exact ⟨_, h1, fun _ z => by cases z⟩
  | dct tk kv lck =>
    obtain ⟨u, us, h1, h2, _⟩ := h
    have hu : ∀ vs, u ≠ .tup vs := h2.no
    cases lck with
    | true =>
      rw [if_pos rfl] at h1
      obtain ⟨ob, h1⟩ := h1
      exact ⟨_, h1, fun _ z => by cases z⟩
    | false =>
      rw [if_neg Bool.false_ne_true] at h1
      exact ⟨_, h1, hu⟩
theorem RepM.has {K : Fr} {H : Hp} {al : Al} {M : Mem} (m : RepM K H al M) {a : Addr} (h : a ∈ al.objs) : ∃ u, H a = some u ∧ ∀ vs, u ≠ .tup vs := by
  obtain ⟨i, hi⟩ := List.mem_iff_getElem?.mp h
  have hl : i < M.length := by rw [← m.len]; exact (List.getElem?_eq_some_iff.mp hi).1
  obtain ⟨b, e, r⟩ := m.at_ i _ (List.getElem?_eq_getElem hl)
  rw [hi] at e
  cases e
  exact r.some
theorem RepM.fresh {K : Fr} {H : Hp} {al : Al} {M : Mem} {p : Addr} (m : RepM K H al M) (hp : H p = none) : p ∉ al := fun h => by
  rcases h with h | h
  · obtain ⟨u, hu, _⟩ := m.has h
    rw [hp] at hu; cases hu
  · exact (m.rs p h).1 hp

/-- a new thing that is none of ours -/
theorem ext_new {H : Hp} {al : Al} {p : Addr} {o : HO} (hp : H p = none) (hr : p ∉ al) : Ext H al (upd H p o) al :=
  ⟨⟨⟨[], by simp⟩, rfl, fun q u h _ => by rw [upd_ne (ne_of_none h hp)]; exact h, fun q u h z => (by rw [upd_ne (ne_of_none h hp), h] at z; cases z), fun q vs h => by rw [upd_ne (ne_of_none h hp)]; exact h, fun q ob u h => by rw [upd_ne (ne_of_none h hp)]; exact h⟩, fun q hq => upd_ne fun e => hr (.inr (e ▸ hq))⟩
/-- a new thing of ours -/
theorem ext_reg {H : Hp} {al : Al} {p : Addr} {o : HO} (hp : H p = none) (hr : p ∉ al) : Ext H al (upd H p o) (al.reg p) :=
  ⟨⟨⟨[p], rfl, fun q hq => by rw [List.mem_singleton.mp hq]; exact hp⟩, rfl, fun q u h _ => by rw [upd_ne (ne_of_none h hp)]; exact h, fun q u h z => (by rw [upd_ne (ne_of_none h hp), h] at z; cases z), fun q vs h => by rw [upd_ne (ne_of_none h hp)]; exact h, fun q ob u h => by rw [upd_ne (ne_of_none h hp)]; exact h⟩, fun q hq => upd_ne fun e => hr (.inr (e ▸ hq))⟩
/-- one of ours is changed -/
theorem ext0_mut {H : Hp} {al : Al} {p : Addr} {o u : HO} (hm : p ∈ al) (hu : H p = some u) (ht : NoT u) : Ext0 H al (upd H p o) al := by
  refine ⟨⟨[], by simp⟩, rfl, fun q w h hn => ?_, fun q w h z => ?_, fun q vs h => ?_, fun q ob w h => ?_⟩
  · rw [upd_ne (fun e => hn (by rw [e]; exact hm))]
    exact h
  · by_cases e : q = p
    · rw [e, upd_same] at z; cases z
    · rw [upd_ne e, h] at z; cases z
  · rw [upd_ne (fun e => by rw [e, hu] at h; cases h; exact ht.1 vs rfl)]
    exact h
  · rw [upd_ne (fun e => by rw [e, hu] at h; cases h; exact ht.2 ob w rfl)]
    exact h
theorem ext_mut {K : Fr} {M : Mem} {H : Hp} {al : Al} {p : Addr} {o u : HO} (m : RepM K H al M) (hm : p ∈ al.objs) (hu : H p = some u) (ht : NoT u) : Ext H al (upd H p o) al :=
  ⟨ext0_mut (.inl hm) hu ht, fun q hq => upd_ne fun e => (m.rs q hq).2 (e ▸ hm)⟩

theorem RepM.new {K : Fr} {H : Hp} {al : Al} {M : Mem} {p : Addr} {o : HO} (m : RepM K H al M) (hp : H p = none) : RepM K (upd H p o) al M := by
  refine ⟨m.len, m.nd, fun i w e => ?_, fun q hq => ⟨fun z => ?_, (m.rs q hq).2⟩⟩
  · obtain ⟨a, h1, h2⟩ := m.at_ i w e
    exact ⟨a, h1, h2.ext0 (ext_new hp (m.fresh hp)).toExt0 fun u hu => by rw [upd_ne (ne_of_none hu hp)]; exact hu⟩
  · rw [upd_ne (fun e => (m.rs q hq).1 (by rw [e]; exact hp))] at z
    exact (m.rs q hq).1 z
/-- a new thing becomes ours -/
theorem RepM.reg {K : Fr} {H : Hp} {al : Al} {M : Mem} {p : Addr} {o : HO} {w : MO} (m : RepM K H al M) (hp : H p = none) (h : RepO K (upd H p o) (al.reg p) w p) : RepM K (upd H p o) (al.reg p) (M ++ [w]) := by
  have hf := m.fresh hp
  refine ⟨by simp [m.len, Al.reg], ?_, fun i z e => ?_, fun q hq => ⟨fun z => ?_, fun z => ?_⟩⟩
  · show (al.objs ++ [p]).Nodup
    rw [List.nodup_append]
    refine ⟨m.nd, by simp, fun a ha b hb => ?_⟩
    rw [List.mem_singleton.mp hb]
    rintro rfl
    exact hf (.inl ha)
  · by_cases hi : i < M.length
    · rw [List.getElem?_append_left hi] at e
      obtain ⟨a, h1, h2⟩ := m.at_ i z e
      refine ⟨a, ?_, h2.ext0 (ext_reg hp hf).toExt0 fun u hu => by rw [upd_ne (ne_of_none hu hp)]; exact hu⟩
      show (al.objs ++ [p])[i]? = _
      rw [List.getElem?_append_left (by rw [m.len]; exact hi)]
      exact h1
    · rw [List.getElem?_append_right (by omega)] at e
      have hz : i - M.length = 0 := by
        have := (List.getElem?_eq_some_iff.mp e).1
        simp at this
        omega
      rw [hz] at e
      simp at e
      subst e
      refine ⟨p, ?_, h⟩
      show (al.objs ++ [p])[i]? = _
      rw [List.getElem?_append_right (by rw [m.len]; omega), m.len, hz]
      rfl
  · rw [upd_ne (fun e => (m.rs q hq).1 (by rw [e]; exact hp))] at z
    exact (m.rs q hq).1 z
  · rcases List.mem_append.mp z with z | z
    · exact (m.rs q hq).2 z
    · exact (m.rs q hq).1 (by rw [List.mem_singleton.mp z]; exact hp)
/-- one of ours is changed -/
theorem RepM.mut0 {K : Fr} {H : Hp} {al : Al} {M : Mem} {i : Nat} {p : Addr} {o : HO} {w : MO} (m : RepM K H al M) (hi : al.objs[i]? = some p) (keep : ∀ d v, RepV K H al d v → RepV K (upd H p o) al d v) (h : RepO K (upd H p o) al w p) : RepM K (upd H p o) al (M.set i w) := by
  have hm : p ∈ al.objs := List.mem_of_getElem? hi
  have keeps : ∀ ds vs, RepVs K H al ds vs → RepVs K (upd H p o) al ds vs := fun ds => by
    induction ds with
    | nil => intro vs h; simpa only [RepVs] using h
    | cons d r ih =>
      intro vs h
      simp only [RepVs] at h ⊢
      obtain ⟨v, us, e, h1, h2⟩ := h
      exact ⟨v, us, e, keep d v h1, ih us h2⟩
  refine ⟨by simp [m.len], m.nd, fun j z e => ?_, fun q hq => ⟨fun z => ?_, (m.rs q hq).2⟩⟩
  · by_cases hj : j = i
    · subst hj
      have hlt : j < M.length := by rw [← m.len]; exact (List.getElem?_eq_some_iff.mp hi).1
      rw [List.getElem?_set_self hlt] at e
      cases e
      exact ⟨p, hi, h⟩
    · rw [List.getElem?_set_ne (Ne.symm hj)] at e
      obtain ⟨a, h1, h2⟩ := m.at_ j z e
      have hne : a ≠ p := by
        rintro rfl
        obtain ⟨b1, e1⟩ := List.getElem?_eq_some_iff.mp h1
        obtain ⟨b2, e2⟩ := List.getElem?_eq_some_iff.mp hi
        exact hj ((List.getElem_inj m.nd).mp (e1.trans e2.symm))
      refine ⟨a, h1, ?_⟩
      cases z with
      | lst ds =>
        obtain ⟨vs, h3, h4⟩ := h2
        exact ⟨vs, (upd_ne hne).trans h3, keeps _ _ h4⟩
      | dct tk kv lck =>
        obtain ⟨u, us, h3, h4, h5⟩ := h2
        refine ⟨u, us, ?_, h4, keeps _ _ h5⟩
        rw [upd_ne hne]
        exact h3
  · rw [upd_ne (fun e => (m.rs q hq).2 (by rw [e]; exact hm))] at z
    exact (m.rs q hq).1 z
theorem RepM.mut {K : Fr} {H : Hp} {al : Al} {M : Mem} {i : Nat} {p : Addr} {o u : HO} {w : MO} (m : RepM K H al M) (hi : al.objs[i]? = some p) (hu : H p = some u) (ht : NoT u) (h : RepO K (upd H p o) al w p) : RepM K (upd H p o) al (M.set i w) :=
  m.mut0 hi (fun d v r => RepV.ext0 (ext0_mut (.inl (List.mem_of_getElem? hi)) hu ht) d v r) h

/-! ### a thing that is being made -/
def Al.take (al : Al) (G : Addr) : Al := ⟨al.objs, G :: al.res⟩
theorem Al.take_no {al : Al} {G p : Addr} (h : p ∉ al.take G) : p ∉ al ∧ p ≠ G := ⟨fun z => h (z.elim .inl fun q => .inr (List.mem_cons_of_mem _ q)), fun e => h (.inr (by rw [e]; exact List.mem_cons_self))⟩
theorem ext0_take {H : Hp} {G : Addr} {o : HO} (hp : H G = none) : ∀ q u, H q = some u → (upd H G o) q = some u := fun q u h => by rw [upd_ne (ne_of_none h hp)]; exact h
mutual
theorem RepV.take {K : Fr} {H : Hp} {al : Al} {G : Addr} {o : HO} (hp : H G = none) : ∀ (d : D) (v : V), RepV K H al d v → RepV K (upd H G o) (al.take G) d v
  | .non, v, h => by simpa only [RepV] using h
  | .bl b, v, h => by simpa only [RepV] using h
  | .int i, v, h => by simpa only [RepV] using h
  | .str s, v, h => by simpa only [RepV] using h
  | .tup l, v, h => by
    simp only [RepV] at h ⊢
    obtain ⟨p, vs, e, h1, h2⟩ := h
    exact ⟨p, vs, e, ext0_take hp _ _ h1, RepVs.take' hp l vs h2⟩
  | .lst l, v, h => by
    simp only [RepV] at h ⊢
    obtain ⟨p, vs, e, h1, h2⟩ := h
    refine ⟨p, vs, e, ?_, RepVs.take' hp l vs h2⟩
    rcases h1 with ⟨h1, hn⟩ | h1
    · refine .inl ⟨?_, fun z => ?_⟩
      · rcases h1 with h1 | ⟨o, h1⟩
        · exact .inl (ext0_take hp _ _ h1)
        · exact .inr ⟨o, ext0_take hp _ _ h1⟩
      · rcases z with z | z
        · exact hn (.inl z)
        · rcases List.mem_cons.mp z with z | z
          · rcases h1 with h1 | ⟨o, h1⟩ <;> (rw [z, hp] at h1; cases h1)
          · exact hn (.inr z)
    · exact .inr h1
  | .dct tk ks l, v, h => by
    simp only [RepV] at h ⊢
    obtain ⟨p, u, us, e, hn, h1, h2, h3⟩ := h
    refine ⟨p, u, us, e, fun z => ?_, ?_, h2, RepVs.take' hp l us h3⟩
    · rcases z with z | z
      · exact hn (.inl z)
      · rcases List.mem_cons.mp z with z | z
        · rcases h1 with h1 | ⟨o, h1⟩ <;> (rw [z, hp] at h1; cases h1)
        · exact hn (.inr z)
    · rcases h1 with h1 | ⟨o, h1⟩
      · exact .inl (ext0_take hp _ _ h1)
      · exact .inr ⟨o, ext0_take hp _ _ h1⟩
  | .obj i, v, h => by
    simp only [RepV] at h ⊢
    exact h
  | .opq, _, _ => by simp only [RepV]
theorem RepVs.take' {K : Fr} {H : Hp} {al : Al} {G : Addr} {o : HO} (hp : H G = none) : ∀ (d : List D) (v : List V), RepVs K H al d v → RepVs K (upd H G o) (al.take G) d v
  | [], vs, h => by simpa only [RepVs] using h
  | d :: r, vs, h => by
    simp only [RepVs] at h ⊢
    obtain ⟨v, us, e, h1, h2⟩ := h
    exact ⟨v, us, e, RepV.take hp d v h1, RepVs.take' hp r us h2⟩
end
mutual
theorem RepV.untake {K : Fr} {H : Hp} {al : Al} {G : Addr} : ∀ (d : D) (v : V), RepV K H (al.take G) d v → RepV K H al d v
  | .non, v, h => by simpa only [RepV] using h
  | .bl b, v, h => by simpa only [RepV] using h
  | .int i, v, h => by simpa only [RepV] using h
  | .str s, v, h => by simpa only [RepV] using h
  | .tup l, v, h => by
    simp only [RepV] at h ⊢
    obtain ⟨p, vs, e, h1, h2⟩ := h
    exact ⟨p, vs, e, h1, RepVs.untake l vs h2⟩
  | .lst l, v, h => by
    simp only [RepV] at h ⊢
    obtain ⟨p, vs, e, h1, h2⟩ := h
    refine ⟨p, vs, e, ?_, RepVs.untake l vs h2⟩
    rcases h1 with ⟨h1, hn⟩ | h1
    · exact .inl ⟨h1, (Al.take_no hn).1⟩
    · exact .inr h1
  | .dct tk ks l, v, h => by
    simp only [RepV] at h ⊢
    obtain ⟨p, u, us, e, hn, h1, h2, h3⟩ := h
    exact ⟨p, u, us, e, (Al.take_no hn).1, h1, h2, RepVs.untake l us h3⟩
  | .obj i, v, h => by
    simp only [RepV] at h ⊢
    exact h
  | .opq, _, _ => by simp only [RepV]
theorem RepVs.untake {K : Fr} {H : Hp} {al : Al} {G : Addr} : ∀ (d : List D) (v : List V), RepVs K H (al.take G) d v → RepVs K H al d v
  | [], vs, h => by simpa only [RepVs] using h
  | d :: r, vs, h => by
    simp only [RepVs] at h ⊢
    obtain ⟨v, us, e, h1, h2⟩ := h
    exact ⟨v, us, e, RepV.untake d v h1, RepVs.untake r us h2⟩
end
theorem RepO.take {K : Fr} {H : Hp} {al : Al} {G a : Addr} {o : HO} {w : MO} (hp : H G = none) (h : RepO K H al w a) : RepO K (upd H G o) (al.take G) w a := by
  cases w with
  | lst ds =>
    obtain ⟨vs, h1, h2⟩ := h
    exact ⟨vs, ext0_take hp _ _ h1, RepVs.take' hp _ _ h2⟩
  | dct tk kv lck =>
    obtain ⟨u, us, h1, h2, h3⟩ := h
    refine ⟨u, us, ?_, h2, RepVs.take' hp _ _ h3⟩
    cases lck with
    | true =>
      rw [if_pos rfl] at h1 ⊢
      obtain ⟨ob, h1⟩ := h1
      exact ⟨ob, ext0_take hp _ _ h1⟩
    | false =>
      rw [if_neg Bool.false_ne_true] at h1 ⊢
      exact ext0_take hp _ _ h1
theorem RepO.untake {K : Fr} {H : Hp} {al : Al} {G a : Addr} {w : MO} (h : RepO K H (al.take G) w a) : RepO K H al w a := by
  cases w with
  | lst ds =>
    obtain ⟨vs, h1, h2⟩ := h
    exact ⟨vs, h1, RepVs.untake _ _ h2⟩
  | dct tk kv lck =>
    obtain ⟨u, us, h1, h2, h3⟩ := h
    exact ⟨u, us, h1, h2, RepVs.untake _ _ h3⟩
theorem RepM.take {K : Fr} {H : Hp} {al : Al} {M : Mem} {G : Addr} {o : HO} (m : RepM K H al M) (hp : H G = none) : RepM K (upd H G o) (al.take G) M := by
  refine ⟨m.len, m.nd, fun i w e => ?_, fun q hq => ?_⟩
  · obtain ⟨a, h1, h2⟩ := m.at_ i w e
    exact ⟨a, h1, h2.take hp⟩
  · rcases List.mem_cons.mp hq with e | hq
    · rw [e, upd_same]
      exact ⟨fun z => (by cases z), fun z => m.fresh hp (.inl z)⟩
    · refine ⟨?_, (m.rs q hq).2⟩
      rw [upd_ne (fun e => (m.rs q hq).1 (by rw [e]; exact hp))]
      exact (m.rs q hq).1
theorem RepM.untake {K : Fr} {H : Hp} {al : Al} {M : Mem} {G : Addr} (m : RepM K H (al.take G) M) : RepM K H al M :=
  ⟨m.len, m.nd, fun i w e => let ⟨a, h1, h2⟩ := m.at_ i w e; ⟨a, h1, h2.untake⟩, fun q hq => m.rs q (List.mem_cons_of_mem _ hq)⟩
/-- what is being made is changed -/
theorem RepM.grow {K : Fr} {H : Hp} {al : Al} {M : Mem} {G : Addr} {o u : HO} (m : RepM K H al M) (hd : G ∈ al.res) (hu : H G = some u) (ht : NoT u) : RepM K (upd H G o) al M := by
  have x : Ext0 H al (upd H G o) al := ext0_mut (.inr hd) hu ht
  refine ⟨m.len, m.nd, fun i w e => ?_, fun q hq => ⟨fun z => ?_, (m.rs q hq).2⟩⟩
  · obtain ⟨a, h1, h2⟩ := m.at_ i w e
    refine ⟨a, h1, h2.ext0 x fun v hv => ?_⟩
    rw [upd_ne (fun e => (m.rs G hd).2 (by rw [← e]; exact List.mem_of_getElem? h1))]
    exact hv
  · by_cases e : q = G
    · rw [e, upd_same] at z; cases z
    · rw [upd_ne e] at z
      exact (m.rs q hq).1 z
/-- from the entry to the end of a making -/
theorem ext_made {H H1 : Hp} {al al1 : Al} {G : Addr} {o : HO} (hp : H G = none) (hr : G ∉ al) (x : Ext0 (upd H G o) (al.take G) H1 al1) (k : ∀ q ∈ al.res, H1 q = H q) : Ext H al H1 ⟨al1.objs, al.res⟩ ∧ G ∉ (⟨al1.objs, al.res⟩ : Al) := by
  obtain ⟨be, e, hb⟩ := x.more
  have hbe : ∀ q ∈ be, H q = none := fun q hq => by
    have := hb q hq
    by_cases z : q = G
    · rw [z]; exact hp
    · rwa [upd_ne z] at this
  refine ⟨⟨⟨⟨be, e, hbe⟩, rfl, fun q u h hn => ?_, fun q u h => x.live q u (ext0_take hp _ _ h), fun q vs h => x.tup q vs (ext0_take hp _ _ h), fun q ob u h => x.frz q ob u (ext0_take hp _ _ h)⟩, k⟩, fun z => ?_⟩
  · refine x.out q u (ext0_take hp _ _ h) fun z => ?_
    rcases z with z | z
    · exact hn (.inl z)
    · rcases List.mem_cons.mp z with z | z
      · rw [z, hp] at h; cases h
      · exact hn (.inr z)
  · rcases z with z | z
    · have z : G ∈ al1.objs := z
      rw [e] at z
      rcases List.mem_append.mp z with z | z
      · exact hr (.inl z)
      · have := hb G z
        rw [upd_same] at this
        cases this
    · exact hr (.inr z)
end MP
set_option Elab.async false
set_option linter.all false
set_option maxRecDepth 100000
set_option autoImplicit false
namespace MP
open PySem PySem.Spec PyProof.Rows L2

/-! ### readings by the evaluator -/
def RepL (K : Fr) (H : Hp) (al : Al) (r : Env) (sg : L2.St) : Prop :=
  r.length = sg.length ∧ ∀ (i : Nat) d, r[i]? = some (some d) → ∃ v, sg[i]? = some (some v) ∧ RepV K H al d v
theorem RepL.ext {K : Fr} {H H1 : Hp} {al al1 : Al} {r : Env} {sg : L2.St} (l : RepL K H al r sg) (x : Ext H al H1 al1) : RepL K H1 al1 r sg :=
  ⟨l.1, fun i d e => let ⟨v, h1, h2⟩ := l.2 i d e; ⟨v, h1, RepV.ext x d v h2⟩⟩
theorem RepL.set {K : Fr} {H : Hp} {al : Al} {r : Env} {sg : L2.St} {d : D} {v : V} (l : RepL K H al r sg) (i : Nat) (h : RepV K H al d v) : RepL K H al (r.set i (some d)) (sg.set i (some v)) := by
  refine ⟨by simp [l.1], fun j c e => ?_⟩
  by_cases hj : i = j
  · subst hj
    by_cases hi : i < r.length
    · rw [List.getElem?_set_self hi] at e
      cases e
      exact ⟨v, by rw [List.getElem?_set_self (by rw [← l.1]; exact hi)], h⟩
    · rw [List.getElem?_eq_none (by simpa using hi)] at e
      cases e
  · rw [List.getElem?_set_ne hj] at e
    obtain ⟨u, h1, h2⟩ := l.2 j c e
    exact ⟨u, by rw [List.getElem?_set_ne hj]; exact h1, h2⟩

def FinE (K : Fr) (H : Hp) (al : Al) (r : R D) (Q : VK) : Prop :=
  match r with
  | .ok d M => ∀ al1 v H1, Ext H al H1 al1 → RepM K H1 al1 M → RepV K H1 al1 d v → Q v H1
  | .stop => False
def FinT (K : Fr) (H : Hp) (al : Al) (r : R Bool) (Q : Bool → Hp → Prop) : Prop :=
  match r with
  | .ok b M => ∀ al1 H1, Ext H al H1 al1 → RepM K H1 al1 M → Q b H1
  | .stop => False
def FinA (K : Fr) (H : Hp) (al : Al) (r : R (List D)) (Q : List V → Hp → Prop) : Prop :=
  match r with
  | .ok ds M => ∀ al1 vs H1, Ext H al H1 al1 → RepM K H1 al1 M → RepVs K H1 al1 ds vs → Q vs H1
  | .stop => False
def FinS (K : Fr) (H : Hp) (al : Al) (o : O) (D : Ends) : Prop :=
  match o with
  | .nx r M => ∀ al1 sg H1, Ext H al H1 al1 → RepM K H1 al1 M → RepL K H1 al1 r sg → D.nx sg H1
  | .bk r M => ∀ al1 sg H1, Ext H al H1 al1 → RepM K H1 al1 M → RepL K H1 al1 r sg → D.bk sg H1
  | .ct r M => ∀ al1 sg H1, Ext H al H1 al1 → RepM K H1 al1 M → RepL K H1 al1 r sg → D.ct sg H1
  | .rt d M => ∀ al1 v H1, Ext H al H1 al1 → RepM K H1 al1 M → RepV K H1 al1 d v → D.rt v H1
  | .stop => False
theorem FinE.ext {K : Fr} {H H1 : Hp} {al al1 : Al} {r : R D} {Q : VK} (h : FinE K H al r Q) (x : Ext H al H1 al1) : FinE K H1 al1 r Q := by
  cases r with
  | ok d M => exact fun al2 v H2 y m r => h al2 v H2 (x.trans y) m r
  | stop => exact h
theorem FinT.ext {K : Fr} {H H1 : Hp} {al al1 : Al} {r : R Bool} {Q : Bool → Hp → Prop} (h : FinT K H al r Q) (x : Ext H al H1 al1) : FinT K H1 al1 r Q := by
  cases r with
  | ok d M => exact fun al2 H2 y m => h al2 H2 (x.trans y) m
  | stop => exact h
theorem FinA.ext {K : Fr} {H H1 : Hp} {al al1 : Al} {r : R (List D)} {Q : List V → Hp → Prop} (h : FinA K H al r Q) (x : Ext H al H1 al1) : FinA K H1 al1 r Q := by
  cases r with
  | ok d M => exact fun al2 v H2 y m r => h al2 v H2 (x.trans y) m r
  | stop => exact h
theorem FinS.ext {K : Fr} {H H1 : Hp} {al al1 : Al} {o : O} {D : Ends} (h : FinS K H al o D) (x : Ext H al H1 al1) : FinS K H1 al1 o D := by
  cases o with
  | nx r M => exact fun al2 v H2 y m l => h al2 v H2 (x.trans y) m l
  | bk r M => exact fun al2 v H2 y m l => h al2 v H2 (x.trans y) m l
  | ct r M => exact fun al2 v H2 y m l => h al2 v H2 (x.trans y) m l
  | rt d M => exact fun al2 v H2 y m l => h al2 v H2 (x.trans y) m l
  | stop => exact h

def tEv (K : Fr) (f : Env → Mem → R D) : TE := fun sg H Q => ∃ al r M, RepM K H al M ∧ RepL K H al r sg ∧ FinE K H al (f r M) Q
def tEt (K : Fr) (f : Env → Mem → R Bool) : TT := fun sg H Q => ∃ al r M, RepM K H al M ∧ RepL K H al r sg ∧ FinT K H al (f r M) Q
def tEa (K : Fr) (f : Env → Mem → R (List D)) : TA := fun sg H Q => ∃ al r M, RepM K H al M ∧ RepL K H al r sg ∧ FinA K H al (f r M) Q
def tEs (K : Fr) (f : Env → Mem → O) : TS := fun D sg H => ∃ al r M, RepM K H al M ∧ RepL K H al r sg ∧ FinS K H al (f r M) D

theorem tEv_ok {K : Fr} {H : Hp} {al : Al} {r : Env} {M M1 : Mem} {sg : L2.St} {f : Env → Mem → R D} {d : D} {Q : VK} (hm : RepM K H al M) (hl : RepL K H al r sg) (e : f r M = .ok d M1)
    (k : ∀ al1 v H1, Ext H al H1 al1 → RepM K H1 al1 M1 → RepL K H1 al1 r sg → RepV K H1 al1 d v → Q v H1) : tEv K f sg H Q :=
  ⟨al, r, M, hm, hl, by unfold FinE; rw [e]; exact fun al1 v H1 x m q => k al1 v H1 x m (hl.ext x) q⟩
theorem tEt_ok {K : Fr} {H : Hp} {al : Al} {r : Env} {M M1 : Mem} {sg : L2.St} {f : Env → Mem → R Bool} {d : Bool} {Q : Bool → Hp → Prop} (hm : RepM K H al M) (hl : RepL K H al r sg) (e : f r M = .ok d M1)
    (k : ∀ al1 H1, Ext H al H1 al1 → RepM K H1 al1 M1 → RepL K H1 al1 r sg → Q d H1) : tEt K f sg H Q :=
  ⟨al, r, M, hm, hl, by unfold FinT; rw [e]; exact fun al1 H1 x m => k al1 H1 x m (hl.ext x)⟩
theorem tEa_ok {K : Fr} {H : Hp} {al : Al} {r : Env} {M M1 : Mem} {sg : L2.St} {f : Env → Mem → R (List D)} {d : List D} {Q : List V → Hp → Prop} (hm : RepM K H al M) (hl : RepL K H al r sg) (e : f r M = .ok d M1)
    (k : ∀ al1 v H1, Ext H al H1 al1 → RepM K H1 al1 M1 → RepL K H1 al1 r sg → RepVs K H1 al1 d v → Q v H1) : tEa K f sg H Q :=
  ⟨al, r, M, hm, hl, by unfold FinA; rw [e]; exact fun al1 v H1 x m q => k al1 v H1 x m (hl.ext x) q⟩

theorem _root_.L2.PE.imp {X : Cx} {e : Expr} {t u : TE} (h : PE X e t) (f : ∀ sg H Q, u sg H Q → t sg H Q) : PE X e u := ⟨fun pins s sg H Q I q => h.run pins s sg H Q I (f sg H Q q)⟩
theorem _root_.L2.PT.imp {X : Cx} {e : Expr} {t u : TT} (h : PT X e t) (f : ∀ sg H Q, u sg H Q → t sg H Q) : PT X e u := ⟨fun pins s sg H Q I q => h.run pins s sg H Q I (f sg H Q q)⟩
theorem _root_.L2.PW.imp {X : Cx} {e : Expr} {t u : TT} (h : PW X e t) (f : ∀ sg H Q, u sg H Q → t sg H Q) : PW X e u := ⟨fun wh pins s sg H Q I q => h.run wh pins s sg H Q I (f sg H Q q)⟩
theorem _root_.L2.PA.imp {X : Cx} {e : List Expr} {t u : TA} (h : PA X e t) (f : ∀ sg H Q, u sg H Q → t sg H Q) : PA X e u := ⟨fun po pins s sg H Q I q => h.run po pins s sg H Q I (f sg H Q q)⟩
theorem _root_.L2.PS.imp {X : Cx} {e : Stmt} {t u : TS} (h : PS X e t) (f : ∀ D sg H, u D sg H → t D sg H) : PS X e u := ⟨fun pins s sg H D I q => h.run pins s sg H D I (f D sg H q)⟩
theorem _root_.L2.PSs.imp {X : Cx} {e : List Stmt} {t u : TS} (h : PSs X e t) (f : ∀ D sg H, u D sg H → t D sg H) : PSs X e u := ⟨fun pins s sg H D I q => h.run pins s sg H D I (f D sg H q)⟩

/-! ### a def's promise, where no repr runs around it -/
structure FnG (P : Program) (w : World) (K : Fr) (mg : Str → Option Value) (base : Heap) (CX : CXT) (k : Nat) (f : Addr) (fd : FuncData) (ps : List Str) (sp : Sp) : Prop where
  len : ∀ vs H Q E, sp vs H Q E → vs.length = ps.length
  run : ∀ (A : Around) (outer : List PySem.Env) (s : Shared) (H : Hp) (args : Args) (us : List Value) (vs : List V) (Q : VK) (E : XK), A.guards = some [] → Room k A → Env0 P w K mg base A outer s H →
    BindsTo s fd args (ps.zip us) → Vals vs us → sp vs H Q E → codeAny (model P w) A (.call (.ref f) args) (CR CX outer P w H s Q E) s

section
variable {X : Cx} {CX : CXT} {k : Nat} {f : Addr} {fd : FuncData} {ps : List Str} {sp : Sp} {E : XK} {x : Str} {p pos : Pos} {e : Expr} {es : List Expr} {t : TA}
theorem run_fnG {pins : List (Addr × Obj)} {sg : L2.St} {H : Hp} {s : Shared} {Q : VK} {us : List Value} {vs : List V} (F : FnG X.prog X.w X.K X.mg X.base CX k f fd ps sp) (hg : X.A.guards = some [])
    (hr : Room k X.A) (hb : Binds X.K fd ps []) (hx : Passes CX X E) (I : Inv X pins sg H s) (r : Vals vs us) (h : sp vs H Q E) :
    wpAny (model X.prog X.w) X.A (call (.ref f) us) (EP X pins sg Q) X.xe s := by
  have hl : (us ++ []).length = ps.length := by rw [List.append_nil, ← r.length]; exact F.len _ _ _ _ h
  have hbb := hb s us I.kIn hl
  rw [List.append_nil] at hbb
  have go := F.run X.A X.stack s H ⟨us, []⟩ us vs Q E hg hr I.env0 hbb r h
  refine wpAny_call (codeAny_mono go fun res s' hq => ?_)
  cases res with
  | error er => exact hx pins sg H s er s' I hq
  | ok fl => cases fl with
    | ret u => exact I.after hq
    | _ => exact False.elim hq
theorem pe_callG (F : FnG X.prog X.w X.K X.mg X.base CX k f fd ps sp) (hgd : X.A.guards = some []) (hr : Room k X.A) (hg : Gl X x) (hm : X.mg x = some (.ref f)) (hk : PySem.W.keepIn X.K (.ref f) = true)
    (hb : Binds X.K fd ps []) (hx : Passes CX X E) (ha : PA X (e :: es) t) (hdb : (x == ("__debug__" : Str)) = false)
    (he : starEach (e :: es) X.env = (false, eval e X.env) :: starEach es X.env) (hpl : (backTo pos (starEach es X.env)).any (·.1) = false) :
    PE X (.Call (.Name x p) (e :: es) [] pos) (tCall sp [] E t) := by
  constructor
  intro pins s sg H Q I h
  refine wpAny_Call_Name_kw (ld_glob I hg hm ?_ hdb)
  have step := ha.run pos pins s sg H _ I h
  refine PySem.W.callWith_K (h₀ := X.base) I.ok.mod.kin hk (thn step fun us s1 hq => ?_) he hpl
  obtain ⟨vs, H1, I1, r, q⟩ := hq
  rw [List.append_nil] at q
  exact ⟨I1.kIn, run_fnG F hgd hr hb hx I1 r q⟩
theorem pe_callG0 (F : FnG X.prog X.w X.K X.mg X.base CX k f fd ps sp) (hgd : X.A.guards = some []) (hr : Room k X.A) (hg : Gl X x) (hm : X.mg x = some (.ref f)) (hk : PySem.W.keepIn X.K (.ref f) = true)
    (hb : Binds X.K fd ps []) (hx : Passes CX X E) (hdb : (x == ("__debug__" : Str)) = false) : PE X (.Call (.Name x p) [] [] pos) (tCall sp [] E tNil) := by
  constructor
  intro pins s sg H Q I h
  exact wpAny_Call_Name_kw (ld_glob I hg hm (PySem.W.callWith_K0 I.kIn hk (run_fnG (us := []) (vs := []) F hgd hr hb hx I .nil h)) hdb)
end

theorem fn_ofG {CX : CXT} {P : Program} {w : World} {K : Fr} {mg : Str → Option Value} {base : Heap} {k : Nat} {f : Addr} {name qual : Str} {params : Arguments} {body : List Stmt} {scope : Scope} {dV kV doc pm cdv ct oc : Value} {an od : Option Addr}
    {osl : Array (Option Value)} {N ps : List Str} {sp : Sp} (lk : K.lookup f = some ⟨oc, od, .func (PySem.W.fnOf name qual params body scope dV kV doc pm an cdv ct), osl⟩) (hcd : PySem.W.codeIn K cdv qual = true) (S : FnScope N ps scope)
    (len : ∀ vs H Q E, sp vs H Q E → vs.length = ps.length)
    (hbody : ∀ (A : Around) (outer : List PySem.Env) (s : Shared) (H : Hp) (vs : List V) (Q : VK) (E : XK), A.guards = some [] → Room k (A.deeper (envOfC qual scope s.heap.objs.size f cdv)) → sp vs H Q E →
      ∃ t, PSs (cxOf CX P w K mg base N qual scope f cdv A outer s H E) body t ∧ t { nx := fun _ H' => Q .non H', rt := Q } (start N vs) H) :
    FnG P w K mg base CX (k + 1) f (PySem.W.fnOf name qual params body scope dV kV doc pm an cdv ct) ps sp := by
  refine ⟨len, fun A outer s H args us vs Q E hgd hr e0 hb r hsp => ?_⟩
  have hl := len _ _ _ _ hsp
  have keepB : ∀ b o, base.get? b = some o → s.heap.get? b = some o := fun b o e => (e0.bs b o e).1
  have KX : K.In s.heap := e0.mod.kin.keeps keepB
  have lim : s.heap.NoLimit := e0.mod.nolimit.keeps keepB
  refine codeAny_call_function hr.depth (KX _ _ lk) rfl S.co S.gen rfl (PySem.W.codeRec_of KX hcd) (hb _ _ _ _ ?_)
  refine wpAny_newFunctionEnv_cells S.kind (fun ⟨n, v⟩ hy => ?_) fun env he s1 x => ?_
  · rcases S.par n (List.of_mem_zip hy).1 with q | q
    · exact Or.inl q
    · exact Or.inr ⟨q, PySem.W.cellsFrom_some _ _ _ (Or.inl q)⟩
  subst he
  refine ⟨lim.keeps x.toInCall.keep, codeAny_func ?_⟩
  obtain ⟨t, ht, hq⟩ := hbody A outer s H vs Q E hgd (hr.deeper _) hsp
  have I := inv_start (CX := CX) (P := P) (w := w) (E := E) S hr.hd e0 hl r x
  refine wpAny_mono (ht.run [] s1 (start N vs) H _ I hq) (fun fl s' hs => ?_) fun er s' hs => hs
  cases fl with
  | ret u =>
    obtain ⟨v, sg', H', J, rv, q⟩ := hs
    exact ⟨v, H', J.os, J.bare, J.base, J.hok, rv, q⟩
  | next =>
    obtain ⟨sg', H', J, q⟩ := hs
    exact ⟨V.non, H', J.os, J.bare, J.base, J.hok, rfl, q⟩
  | brk =>
    obtain ⟨_, _, _, q⟩ := hs
    exact q.elim
  | cont =>
    obtain ⟨_, _, _, q⟩ := hs
    exact q.elim
end MP
set_option Elab.async false
set_option linter.all false
set_option maxRecDepth 100000
set_option autoImplicit false
namespace MP
open PySem PySem.Spec PyProof.Rows L2

theorem line_eq : line = sizeLine := by rw [sizeLine_eq]; rfl

/-! ### pure data as the model's data -/
mutual
def toPy : D → PyData
  | .non => .none
  | .bl b => .bool b
  | .int i => .int i
  | .str s => .str ⟨s.toArray⟩
  | .tup l => .tuple (toPys l)
  | .lst l => .list (toPys l)
  | .dct _ _ _ => .none
  | .obj _ => .none
  | .opq => .none
def toPys : List D → List PyData
  | [] => []
  | d :: r => toPy d :: toPys r
end
mutual
theorem depth_toPy : ∀ d : D, (toPy d).depth ≤ D.depth d
  | .non => by simp [toPy, PyData.depth]
  | .bl _ => by simp [toPy, PyData.depth]
  | .int _ => by simp [toPy, PyData.depth]
  | .str _ => by simp [toPy, PyData.depth]
  | .tup l => by
    have h := depth_toPys l
    simp only [toPy, PyData.depth, D.depth]
    omega
  | .lst l => by
    have h := depth_toPys l
    simp only [toPy, PyData.depth, D.depth]
    omega
  | .dct _ _ _ => by simp [toPy, PyData.depth]
  | .obj _ => by simp [toPy, PyData.depth]
  | .opq => by simp [toPy, PyData.depth]
theorem depth_toPys : ∀ l : List D, PyData.depthAll (toPys l) ≤ D.depthAll l
  | [] => by simp [toPys, PyData.depthAll]
  | d :: r => by
    have h1 := depth_toPy d
    have h2 := depth_toPys r
    simp only [toPys, PyData.depthAll, D.depthAll]
    first | exact Nat.max_le.mpr ⟨Nat.le_trans h1 (Nat.le_max_left _ _), Nat.le_trans h2 (Nat.le_max_right _ _)⟩ | omega
end
mutual
theorem rep_dp {K : Fr} {H : Hp} {al : Al} : ∀ (d : D) (v : V), D.pure d = true → RepV K H al d v → Dp K H v (toPy d) ∧ (toPy d).canLay0 = true
  | .non, v, _, h => by simp only [RepV] at h; subst h; exact ⟨.non, by simp [toPy, PyData.canLay0]⟩
  | .bl b, v, _, h => by simp only [RepV] at h; subst h; exact ⟨.bl b, by simp [toPy, PyData.canLay0]⟩
  | .int i, v, _, h => by simp only [RepV] at h; subst h; exact ⟨.int i, by simp [toPy, PyData.canLay0]⟩
  | .str s, v, _, h => by
    simp only [RepV] at h
    obtain ⟨rfl, h2⟩ := h
    exact ⟨.str _, by simpa [toPy, PyData.canLay0] using h2⟩
  | .tup l, v, hp, h => by
    simp only [RepV] at h
    obtain ⟨p, vs, rfl, h1, h2⟩ := h
    obtain ⟨q1, q2⟩ := rep_dps l vs (by simpa [D.pure] using hp) h2
    exact ⟨.tup (.inl (.inl h1)) q1, by simpa [toPy, PyData.canLay0] using q2⟩
  | .lst l, v, hp, h => by
    simp only [RepV] at h
    obtain ⟨p, vs, rfl, h1, h2⟩ := h
    obtain ⟨q1, q2⟩ := rep_dps l vs (by simpa [D.pure] using hp) h2
    exact ⟨.lst h1.seq q1, by simpa [toPy, PyData.canLay0] using q2⟩
  | .dct _ _ _, v, hp, _ => by simp [D.pure] at hp
  | .obj _, v, hp, _ => by simp [D.pure] at hp
  | .opq, v, hp, _ => by simp [D.pure] at hp
theorem rep_dps {K : Fr} {H : Hp} {al : Al} : ∀ (l : List D) (vs : List V), D.pureAll l = true → RepVs K H al l vs → DpAll K H vs (toPys l) ∧ PyData.canLayAll0 (toPys l) = true
  | [], vs, _, h => by simp only [RepVs] at h; subst h; exact ⟨.nil, by simp [toPys, PyData.canLayAll0]⟩
  | d :: r, vs, hp, h => by
    simp only [RepVs] at h
    obtain ⟨v, us, rfl, h1, h2⟩ := h
    simp only [D.pureAll, Bool.and_eq_true] at hp
    obtain ⟨a1, a2⟩ := rep_dp d v hp.1 h1
    obtain ⟨b1, b2⟩ := rep_dps r us hp.2 h2
    exact ⟨.cons a1 b1, by simp only [toPys, PyData.canLayAll0, a2, b2, Bool.and_self]⟩
end
theorem str_eq_iff (x y : List Nat) : ((⟨x.toArray⟩ : Str) == ⟨y.toArray⟩) = (x == y) := by
  rw [Bool.eq_iff_iff]
  simp
mutual
theorem eqv_toPy : ∀ (d e : D), D.pure d = true → D.pure e = true → PyData.eqv (toPy d) (toPy e) = eqv d e
  | .non, e, _, he => by cases e <;> first | (simp [D.pure] at he; done) | simp [toPy, PyData.eqv, eqv]
  | .bl a, e, _, he => by cases e <;> first | (simp [D.pure] at he; done) | simp [toPy, PyData.eqv, eqv, b2i]
  | .int a, e, _, he => by cases e <;> first | (simp [D.pure] at he; done) | simp [toPy, PyData.eqv, eqv, b2i]
  | .str a, e, _, he => by
    cases e <;> first
      | (simp [D.pure] at he; done)
      | (simp only [toPy, PyData.eqv, eqv, str_eq_iff])
      | simp [toPy, PyData.eqv, eqv]
  | .tup l, e, hd, he => by
    cases e <;> first
      | (simp [D.pure] at he; done)
      | (simp only [D.pure] at hd he; simp only [toPy, PyData.eqv, eqv]; exact eqvs_toPy _ _ hd he)
      | simp [toPy, PyData.eqv, eqv]
  | .lst l, e, hd, he => by
    cases e <;> first
      | (simp [D.pure] at he; done)
      | (simp only [D.pure] at hd he; simp only [toPy, PyData.eqv, eqv]; exact eqvs_toPy _ _ hd he)
      | simp [toPy, PyData.eqv, eqv]
  | .dct _ _ _, _, hd, _ => by simp [D.pure] at hd
  | .obj _, _, hd, _ => by simp [D.pure] at hd
  | .opq, _, hd, _ => by simp [D.pure] at hd
theorem eqvs_toPy : ∀ (l k : List D), D.pureAll l = true → D.pureAll k = true → PyData.eqvAll (toPys l) (toPys k) = eqvAll l k
  | [], [], _, _ => by simp [toPys, PyData.eqvAll, eqvAll]
  | [], _ :: _, _, _ => by simp [toPys, PyData.eqvAll, eqvAll]
  | _ :: _, [], _, _ => by simp [toPys, PyData.eqvAll, eqvAll]
  | d :: r, e :: k, hd, he => by
    simp only [D.pureAll, Bool.and_eq_true] at hd he
    simp only [toPys, PyData.eqvAll, eqvAll, eqv_toPy d e hd.1 he.1, eqvs_toPy r k hd.2 he.2]
end

/-! ### two-place operations -/
/-- by data: what the evaluator says of two values -/
def rBin (K : Fr) (g : D → D → Mem → R D) : R2 := fun x y H Q => ∃ al M dx dy, RepM K H al M ∧ RepV K H al dx x ∧ RepV K H al dy y ∧ FinE K H al (g dx dy M) Q

/-- a list as an operand, with its items -/
theorem items_rep {K : Fr} {H : Hp} {al : Al} {M : Mem} {d : D} {v : V} {l : List D} (m : RepM K H al M) (r : RepV K H al d v) (e : itemsOf d M = some l) : ∃ p vs, v = .ref p ∧ SqL K H p vs ∧ RepVs K H al l vs := by
  cases d with
  | lst k =>
    simp only [itemsOf] at e
    cases e
    simp only [RepV] at r
    obtain ⟨p, vs, rfl, h1, h2⟩ := r
    exact ⟨p, vs, rfl, h1.seq, h2⟩
  | obj i =>
    simp only [itemsOf] at e
    simp only [RepV] at r
    obtain ⟨a, h1, rfl⟩ := r
    cases ho : M[i]? with
    | none => rw [ho] at e; cases e
    | some o =>
      rw [ho] at e
      cases o with
      | lst k =>
        simp only at e
        cases e
        obtain ⟨b, h2, vs, h3, h4⟩ := m.at_ i _ ho
        rw [h1] at h2
        cases h2
        exact ⟨a, vs, rfl, .inl (.inl h3), h4⟩
      | dct _ _ _ => simp at e
  | _ => simp [itemsOf] at e

section
variable {X : Cx}
/-- list + list, whatever holds them -/
def rCatS (K : Fr) : R2 := fun x y H Q => ∃ l b xs zs, x = .ref l ∧ y = .ref b ∧ SqL K H l xs ∧ SqL K H b zs ∧ xs.length + zs.length ≤ sizeLine ∧ ∀ p, H p = none → Q (.ref p) (upd H p (.lst (xs ++ zs)))
theorem op_catS : OpR X (binaryOp .Add) (rCatS X.K) := by
  intro pins s sg H x y v u Q I rx ry h
  obtain ⟨l, b, xs, zs, rfl, rfl, hH, hB, hz, q⟩ := h
  cases rx
  cases ry
  obtain ⟨its, r, pl, _⟩ := I.list hH
  obtain ⟨its2, r2, pl2, _⟩ := I.list hB
  obtain ⟨⟨c1, d1, dat1, sl1⟩, n1, e1, hc1, _, hd1⟩ := pl
  obtain ⟨⟨c2, d2, dat2, sl2⟩, n2, e2, hc2, _, hd2⟩ := pl2
  subst hc1 hd1 hc2 hd2
  have h1 := r.length
  have h2 := r2.length
  have ea : its.toArray ++ its2.toArray = (its ++ its2).toArray := by simp
  have cat := list_addW l b its.toArray its2.toArray n1 n2 d1 d2 sl1 sl2 (by simp only [List.size_toArray]; omega)
  refine concat_meets ⟨_, e1, rfl⟩ ⟨_, e2, rfl⟩ noFill_list_add seq_list_add PySem.F.slot_list_add PySem.F.entry_list_add (PySem.F.args_list_add_2 _ _) cat ⟨e1, e2, ?_⟩
  rw [ea]
  exact ⟨.ref _, _, I.lnew (t' := s.toks) (r.append r2) (by rw [List.length_append]; exact hz), rfl, q _ I.fresh⟩

theorem strOk_iff (x : List Nat) : (PyData.strOk ⟨x.toArray⟩ = true) ↔ ∀ c ∈ x, c < 0x110000 := by
  unfold PyData.strOk
  simp
theorem strOk_append {x y : List Nat} (hx : PyData.strOk ⟨x.toArray⟩ = true) (hy : PyData.strOk ⟨y.toArray⟩ = true) : PyData.strOk ⟨(x ++ y).toArray⟩ = true := by
  rw [strOk_iff] at *
  intro c hc
  rcases List.mem_append.mp hc with h | h
  · exact hx c h
  · exact hy c h

theorem fin_of {K : Fr} {H : Hp} {al : Al} {M : Mem} {d : D} {v : V} {Q : VK} (h : FinE K H al (.ok d M) Q) (m : RepM K H al M) (r : RepV K H al d v) : Q v H := h al v H (Ext.refl _ _) m r
/-- a new tuple, a new list -/
theorem fin_tup {K : Fr} {H : Hp} {al : Al} {M : Mem} {l : List D} {vs : List V} {Q : VK} (h : FinE K H al (.ok (.tup l) M) Q) (m : RepM K H al M) (r : RepVs K H al l vs) {p : Addr} (hp : H p = none) : Q (.ref p) (upd H p (.tup vs)) := by
  refine h al _ _ (ext_new hp (m.fresh hp)) (m.new hp) ?_
  simp only [RepV]
  exact ⟨p, vs, rfl, upd_same, RepVs.ext (ext_new hp (m.fresh hp)) _ _ r⟩
theorem fin_lst {K : Fr} {H : Hp} {al : Al} {M : Mem} {l : List D} {vs : List V} {Q : VK} (h : FinE K H al (.ok (.lst l) M) Q) (m : RepM K H al M) (r : RepVs K H al l vs) {p : Addr} (hp : H p = none) : Q (.ref p) (upd H p (.lst vs)) := by
  refine h al _ _ (ext_new hp (m.fresh hp)) (m.new hp) ?_
  simp only [RepV]
  exact ⟨p, vs, rfl, .inl ⟨.inl upd_same, m.fresh hp⟩, RepVs.ext (ext_new hp (m.fresh hp)) _ _ r⟩
theorem fin_lstM {K : Fr} {H : Hp} {al : Al} {M : Mem} {l : List D} {vs : List V} {Q : VK} (h : FinE K H al (.ok (.obj M.length) (M ++ [.lst l])) Q) (m : RepM K H al M) (r : RepVs K H al l vs) {p : Addr} (hp : H p = none) : Q (.ref p) (upd H p (.lst vs)) := by
  have hr := m.fresh hp
  refine h (al.reg p) _ _ (ext_reg hp hr) (m.reg hp ⟨vs, upd_same, RepVs.ext (ext_reg hp hr) _ _ r⟩) ?_
  simp only [RepV]
  refine ⟨p, ?_, rfl⟩
  show (al.objs ++ [p])[M.length]? = _
  rw [List.getElem?_append_right (by rw [m.len]; omega), m.len]
  simp

theorem bin_lists {dx dy : D} {M : Mem} (h : (∃ l, dx = .lst l) ∨ ∃ i, dx = .obj i) : binD .add dx dy M = (match itemsOf dx M, itemsOf dy M with
    | some x, some y => if decide (x.length + y.length ≤ line) then .ok (.lst (x ++ y)) M else .stop
    | _, _ => .stop) := by
  rcases h with ⟨l, rfl⟩ | ⟨i, rfl⟩ <;> cases dy <;> rfl

theorem op_bin_add : OpR X (binaryOp .Add) (rBin X.K (binD .add)) := by
  intro pins s sg H x y v u Q I rx ry h
  obtain ⟨al, M, dx, dy, m, r1, r2, hf⟩ := h
  have lists : ((∃ l, dx = .lst l) ∨ ∃ i, dx = .obj i) → wpAny (model X.prog X.w) X.A (binaryOp .Add v u) (EP X pins sg Q) X.xe s := by
    intro hd
    rw [bin_lists hd] at hf
    cases e1 : itemsOf dx M with
    | none => simp [e1, FinE] at hf
    | some l =>
      cases e2 : itemsOf dy M with
      | none => simp [e1, e2, FinE] at hf
      | some k =>
        simp only [e1, e2] at hf
        obtain ⟨p, vs, rfl, s1, w1⟩ := items_rep m r1 e1
        obtain ⟨b, us, rfl, s2, w2⟩ := items_rep m r2 e2
        by_cases hz : l.length + k.length ≤ line
        · rw [if_pos (decide_eq_true hz)] at hf
          refine op_catS pins s sg H _ _ v u Q I rx ry ⟨p, b, vs, us, rfl, rfl, s1, s2, ?_, fun q hq => fin_lst hf m (w1.append w2) hq⟩
          rw [w1.length, w2.length, ← line_eq]
          exact hz
        · rw [if_neg (by simpa using hz)] at hf
          exact hf.elim
  cases dx with
  | int i =>
    cases dy with
    | int j =>
      simp only [RepV] at r1 r2
      subst r1 r2
      exact op_add pins s sg H _ _ v u Q I rx ry ⟨i, j, rfl, rfl, fin_of hf m (RepV.mkInt _)⟩
    | _ => simp [binD, itemsOf, FinE] at hf
  | str a =>
    cases dy with
    | str b =>
      simp only [RepV] at r1 r2
      obtain ⟨rfl, o1⟩ := r1
      obtain ⟨rfl, o2⟩ := r2
      simp only [binD] at hf
      by_cases hz : a.length + b.length ≤ line
      · rw [if_pos (decide_eq_true hz)] at hf
        refine op_add_str pins s sg H _ _ v u Q I rx ry ⟨_, _, rfl, rfl, ?_, ?_⟩
        · show a.toArray.size + b.toArray.size ≤ sizeLine
          rw [← line_eq]
          simpa using hz
        · have e : (⟨a.toArray⟩ : Str) ++ ⟨b.toArray⟩ = ⟨(a ++ b).toArray⟩ := by
            show (⟨a.toArray ++ b.toArray⟩ : Str) = _
            simp
          rw [e]
          exact fin_of hf m (RepV.mkStr (strOk_append o1 o2))
      · rw [if_neg (by simpa using hz)] at hf
        exact hf.elim
    | _ => simp [binD, itemsOf, FinE] at hf
  | tup a =>
    cases dy with
    | tup b =>
      have r1' := r1
      have r2' := r2
      simp only [RepV] at r1 r2
      obtain ⟨p, vs, rfl, h1, w1⟩ := r1
      obtain ⟨q, us, rfl, h2, w2⟩ := r2
      simp only [binD] at hf
      by_cases hz : a.length + b.length ≤ line
      · rw [if_pos (decide_eq_true hz)] at hf
        refine op_catA pins s sg H _ _ v u Q I rx ry ⟨p, q, vs, us, rfl, rfl, .inl (.inl h1), .inl (.inl h2), ?_, fun e => ?_, fun _ e => ?_, fun _ _ z hz2 => fin_tup hf m (w1.append w2) hz2⟩
        · rw [w1.length, w2.length, ← line_eq]
          exact hz
        · have : a = [] := List.eq_nil_of_length_eq_zero (by rw [← w1.length, e]; rfl)
          subst this
          exact fin_of hf m r2'
        · have : b = [] := List.eq_nil_of_length_eq_zero (by rw [← w2.length, e]; rfl)
          subst this
          rw [List.append_nil] at hf
          exact fin_of hf m r1'
      · rw [if_neg (by simpa using hz)] at hf
        exact hf.elim
    | _ => simp [binD, itemsOf, FinE] at hf
  | lst l => exact lists (.inl ⟨l, rfl⟩)
  | obj i => exact lists (.inr ⟨i, rfl⟩)
  | non => cases dy <;> simp [binD, itemsOf, FinE] at hf
  | bl b => cases dy <;> simp [binD, itemsOf, FinE] at hf
  | dct t a b => cases dy <;> simp [binD, itemsOf, FinE] at hf
  | opq => cases dy <;> simp [binD, itemsOf, FinE] at hf

/-- the others: two ints -/
theorem op_bin_int {o : Bop} {op : Operator} {C : Int → Int → Prop} {g : Int → Int → Int} (hr : OpR X (binaryOp op) (rI C fun i j => .int (g i j)))
    (h : ∀ dx dy M, binD o dx dy M = .stop ∨ ∃ i j, dx = .int i ∧ dy = .int j ∧ C i j ∧ binD o dx dy M = .ok (.int (g i j)) M) : OpR X (binaryOp op) (rBin X.K (binD o)) := by
  intro pins s sg H x y v u Q I rx ry hh
  obtain ⟨al, M, dx, dy, m, r1, r2, hf⟩ := hh
  rcases h dx dy M with e | ⟨i, j, rfl, rfl, hc, e⟩
  · rw [e] at hf
    exact hf.elim
  · rw [e] at hf
    simp only [RepV] at r1 r2
    subst r1 r2
    exact hr pins s sg H _ _ v u Q I rx ry ⟨i, j, rfl, rfl, hc, fin_of hf m (RepV.mkInt _)⟩
theorem op_bin_sub : OpR X (binaryOp .Sub) (rBin X.K (binD .sub)) := by
  intro pins s sg H x y v u Q I rx ry hh
  obtain ⟨al, M, dx, dy, m, r1, r2, hf⟩ := hh
  cases dx <;> cases dy <;> first
    | (simp only [RepV] at r1 r2
       subst r1 r2
       exact op_sub pins s sg H _ _ v u Q I rx ry ⟨_, _, rfl, rfl, fin_of hf m (RepV.mkInt _)⟩)
    | (simp [binD, FinE] at hf; done)
theorem op_bin_mul : OpR X (binaryOp .Mult) (rBin X.K (binD .mul)) := by
  refine op_bin_int op_mul fun dx dy M => ?_
  cases dx <;> cases dy <;> first
    | (left; rfl)
    | (rename_i i j
       by_cases h : (decide (-(2 ^ 64) < i ∧ i < 2 ^ 64) || decide (-(2 ^ 64) < j ∧ j < 2 ^ 64)) = true
       · right
         refine ⟨i, j, rfl, rfl, ?_, if_pos h⟩
         simpa [CMul] using h
       · left
         exact if_neg h)
theorem op_bin_fdiv : OpR X (binaryOp .FloorDiv) (rBin X.K (binD .fdiv)) := by
  refine op_bin_int op_fdiv fun dx dy M => ?_
  cases dx <;> cases dy <;> first
    | (left; rfl)
    | (rename_i i j
       by_cases h : 0 < j ∧ j < 1073741824
       · right
         exact ⟨i, j, rfl, rfl, h, if_pos (decide_eq_true h)⟩
       · left
         exact if_neg (by simpa using h))
theorem op_bin_mod : OpR X (binaryOp .Mod) (rBin X.K (binD .mod)) := by
  refine op_bin_int op_mod fun dx dy M => ?_
  cases dx <;> cases dy <;> first
    | (left; rfl)
    | (rename_i i j
       by_cases h : 0 < j
       · right
         exact ⟨i, j, rfl, rfl, h, if_pos (decide_eq_true h)⟩
       · left
         exact if_neg (by simpa using h))
theorem op_bin_pow : OpR X (binaryOp .Pow) (rBin X.K (binD .pow)) := by
  refine op_bin_int op_pow fun dx dy M => ?_
  cases dx <;> cases dy <;> first
    | (left; rfl)
    | (rename_i i j
       by_cases h : 0 ≤ j ∧ j ≤ 1000 ∧ i.natAbs < 2 ^ 64
       · right
         exact ⟨i, j, rfl, rfl, ⟨h.1, by omega, h.2.2⟩, if_pos (decide_eq_true h)⟩
       · left
         exact if_neg (by simpa using h))
end
end MP
set_option Elab.async false
set_option linter.all false
set_option maxRecDepth 100000
set_option autoImplicit false
namespace MP
open PySem PySem.Spec PyProof.Rows L2

/-! ### keys -/
theorem kD_of {K : Fr} {H : Hp} {al : Al} {d : D} {v : V} (f : flat d = true) (r : RepV K H al d v) : ∃ k : Key, d = kD k ∧ v = kV k ∧ keyOk k := by
  cases d <;> simp only [flat, Bool.false_eq_true] at f
  · rename_i i
    simp only [RepV] at r
    exact ⟨.inl i, rfl, r, trivial⟩
  · rename_i s
    simp only [RepV] at r
    exact ⟨.inr ⟨s.toArray⟩, by simp [kD], r.1, r.2⟩
theorem kDs_of {K : Fr} {H : Hp} {al : Al} : ∀ {l : List D} {vs : List V}, l.all flat = true → RepVs K H al l vs → ∃ ks : List Key, l = ks.map kD ∧ vs = ks.map kV ∧ ∀ k ∈ ks, keyOk k
  | [], vs, _, r => by
    simp only [RepVs] at r
    exact ⟨[], rfl, r, by simp⟩
  | d :: l, vs, f, r => by
    simp only [RepVs] at r
    obtain ⟨v, us, rfl, r1, r2⟩ := r
    simp only [List.all_cons, Bool.and_eq_true] at f
    obtain ⟨k, rfl, rfl, o1⟩ := kD_of f.1 r1
    obtain ⟨ks, rfl, rfl, o2⟩ := kDs_of f.2 r2
    refine ⟨k :: ks, rfl, rfl, fun z hz => ?_⟩
    rcases List.mem_cons.mp hz with e | e
    · rw [e]; exact o1
    · exact o2 z e
theorem flatEq_kD (a b : Key) : flatEq (kD a) (kD b) = decide (a = b) := by
  cases a <;> cases b
  · rename_i i j
    show (i == j) = _
    rw [key_ll]
  · simp [kD, flatEq]
  · simp [kD, flatEq]
  · rename_i x y
    show (x.cps.toList == y.cps.toList) = _
    rw [Bool.eq_iff_iff]
    cases x
    cases y
    simp
theorem flatEqs_kD : ∀ a b : List Key, flatEqAll (a.map kD) (b.map kD) = decide (a = b)
  | [], [] => by simp [flatEqAll]
  | [], _ :: _ => by simp [flatEqAll]
  | _ :: _, [] => by simp [flatEqAll]
  | a :: r, b :: s => by
    simp only [List.map_cons, flatEqAll, flatEq_kD, flatEqs_kD r s]
    by_cases h1 : a = b <;> by_cases h2 : r = s <;> simp [h1, h2]
theorem keyEq_kD (a b : Key) : keyEq (kD a) (kD b) = decide (a = b) := by
  rw [← flatEq_kD]
  cases a <;> cases b <;> rfl
theorem keyEq_tD (a b : List Key) : keyEq (tD a) (tD b) = decide (a = b) := flatEqs_kD a b

/-- looking up: the same in the dict of the heap -/
theorem lookK_val {κ : Type} [DecidableEq κ] {K : Fr} {H : Hp} {al : Al} (g : κ → D) (hg : ∀ a b, keyEq (g a) (g b) = decide (a = b)) (k : κ) : ∀ (kv : List (D × D)) (kvs : List (κ × V)),
    kvs.map (fun q => g q.1) = kv.map (·.1) → RepVs K H al (kv.map (·.2)) (kvs.map (·.2)) → (lookK (g k) kv = none ∧ valV kvs k = none) ∨ ∃ d v, lookK (g k) kv = some d ∧ valV kvs k = some v ∧ RepV K H al d v
  | [], [], _, _ => .inl ⟨rfl, rfl⟩
  | [], _ :: _, h, _ => by simp at h
  | _ :: _, [], h, _ => by simp at h
  | (a, d) :: kv, (b, v) :: kvs, h, r => by
    simp only [List.map_cons, List.cons.injEq] at h
    simp only [List.map_cons, RepVs] at r
    obtain ⟨w, us, e, r1, r2⟩ := r
    simp only [List.cons.injEq] at e
    obtain ⟨rfl, rfl⟩ := e
    have hk : keyEq a (g k) = decide (b = k) := by rw [← h.1]; exact hg b k
    by_cases hb : b = k
    · right
      refine ⟨d, v, ?_, valV_pos hb, r1⟩
      show (if keyEq a (g k) = true then some d else lookK (g k) kv) = some d
      rw [hk, if_pos (decide_eq_true hb)]
    · have e1 : lookK (g k) ((a, d) :: kv) = lookK (g k) kv := by
        show (if keyEq a (g k) = true then some d else lookK (g k) kv) = _
        rw [hk, if_neg (by simpa using hb)]
      rw [e1, valV_neg hb]
      exact lookK_val g hg k kv kvs h.2 r2
theorem look2_K (k : D) : ∀ ks vs : List D, look2 k ks vs = lookK k (ks.zip vs)
  | [], _ => by cases ‹List D› <;> rfl
  | _ :: _, [] => rfl
  | a :: r, v :: s => by
    show (if keyEq a k = true then some v else look2 k r s) = (if keyEq a k = true then some v else lookK k (r.zip s))
    rw [look2_K k r s]
theorem zip_fst {α β : Type} : ∀ {ks : List α} {vs : List β}, ks.length = vs.length → (ks.zip vs).map (·.1) = ks
  | [], _, _ => by simp
  | a :: r, [], h => by simp at h
  | a :: r, b :: s, h => by
    simp only [List.zip_cons_cons, List.map_cons, List.cons.injEq, true_and]
    exact zip_fst (by simpa using h)
theorem zip_snd {α β : Type} : ∀ {ks : List α} {vs : List β}, ks.length = vs.length → (ks.zip vs).map (·.2) = vs
  | [], [], _ => rfl
  | [], _ :: _, h => by simp at h
  | a :: r, [], h => by simp at h
  | a :: r, b :: s, h => by
    simp only [List.zip_cons_cons, List.map_cons, List.cons.injEq, true_and]
    exact zip_snd (by simpa using h)

/-- what a dict holds at a key -/
theorem dget_of {K : Fr} {H : Hp} {al : Al} {a : Addr} {u : HO} {tk : Bool} {kv : List (D × D)} {us : List V} {k : D} {y : V} (hu : Rd H a u) (di : DictIs tk u (kv.map (·.1)) us) (rs : RepVs K H al (kv.map (·.2)) us)
    (ik : isKey k = true) (it : (isTupKey k == tk) = true) (ry : RepV K H al k y) : (lookK k kv = none ∧ DGet H a y none) ∨ ∃ d v, lookK k kv = some d ∧ DGet H a y (some v) ∧ RepV K H al d v := by
  cases tk with
  | false =>
    obtain ⟨kvs, rfl, e1, e2, _⟩ := di
    subst e2
    have fk : flat k = true := by
      cases k <;> first | rfl | (simp [isKey] at ik; done) | (simp [isTupKey] at it)
    obtain ⟨kk, rfl, rfl, _⟩ := kD_of fk ry
    rcases lookK_val kD keyEq_kD kk kv kvs e1 rs with ⟨h1, h2⟩ | ⟨d, v, h1, h2, h3⟩
    · exact .inl ⟨h1, .inl ⟨kvs, kk, hu, rfl, h2.symm⟩⟩
    · exact .inr ⟨d, v, h1, .inl ⟨kvs, kk, hu, rfl, h2.symm⟩, h3⟩
  | true =>
    obtain ⟨kvs, rfl, e1, e2, _⟩ := di
    subst e2
    cases k with
    | tup l =>
      simp only [isKey] at ik
      simp only [RepV] at ry
      obtain ⟨p, vs, rfl, hp, rv⟩ := ry
      obtain ⟨ks, rfl, rfl, _⟩ := kDs_of ik rv
      rcases lookK_val tD keyEq_tD ks kv kvs e1 rs with ⟨h1, h2⟩ | ⟨d, v, h1, h2, h3⟩
      · exact .inl ⟨h1, .inr ⟨kvs, ks, p, hu, rfl, hp, h2.symm⟩⟩
      · exact .inr ⟨d, v, h1, .inr ⟨kvs, ks, p, hu, rfl, hp, h2.symm⟩, h3⟩
    | _ => simp [isTupKey] at it

/-- a dict as a datum -/
theorem dictD {K : Fr} {H : Hp} {al : Al} {tk : Bool} {ks vs : List D} {x : V} (r : RepV K H al (.dct tk ks vs) x) : ∃ p u us, x = .ref p ∧ Rd H p u ∧ DictIs tk u ((ks.zip vs).map (·.1)) us ∧ RepVs K H al ((ks.zip vs).map (·.2)) us := by
  simp only [RepV] at r
  obtain ⟨p, u, us, rfl, hn, hr, di, rs⟩ := r
  have hl : ks.length = vs.length := by
    have h1 := rs.length
    cases tk with
    | false =>
      obtain ⟨kvs, _, e1, e2, _⟩ := di
      rw [← e1, ← h1, ← e2, List.length_map, List.length_map]
    | true =>
      obtain ⟨kvs, _, e1, e2, _⟩ := di
      rw [← e1, ← h1, ← e2, List.length_map, List.length_map]
  exact ⟨p, u, us, rfl, hr, by rw [zip_fst hl]; exact di, by rw [zip_snd hl]; exact rs⟩
/-- a dict of ours -/
theorem dictM {K : Fr} {H : Hp} {al : Al} {M : Mem} {i : Nat} {x : V} {tk lck : Bool} {kv : List (D × D)} (m : RepM K H al M) (r : RepV K H al (.obj i) x) (e : M[i]? = some (.dct tk kv lck)) :
    ∃ p u us, x = .ref p ∧ al.objs[i]? = some p ∧ Rd H p u ∧ (lck = false → H p = some u) ∧ DictIs tk u (kv.map (·.1)) us ∧ RepVs K H al (kv.map (·.2)) us := by
  simp only [RepV] at r
  obtain ⟨p, h1, rfl⟩ := r
  obtain ⟨b, h2, u, us, h3, h4, h5⟩ := m.at_ i _ e
  rw [h1] at h2
  cases h2
  refine ⟨p, u, us, rfl, h1, ?_, fun z => ?_, h4, h5⟩
  · cases lck with
    | true => rw [if_pos rfl] at h3; exact .inr h3
    | false => rw [if_neg Bool.false_ne_true] at h3; exact .inl h3
  · subst z
    rw [if_neg Bool.false_ne_true] at h3
    exact h3
/-- a list of ours -/
theorem listM {K : Fr} {H : Hp} {al : Al} {M : Mem} {i : Nat} {x : V} {l : List D} (m : RepM K H al M) (r : RepV K H al (.obj i) x) (e : M[i]? = some (.lst l)) :
    ∃ p vs, x = .ref p ∧ al.objs[i]? = some p ∧ H p = some (.lst vs) ∧ RepVs K H al l vs := by
  simp only [RepV] at r
  obtain ⟨p, h1, rfl⟩ := r
  obtain ⟨b, h2, vs, h3, h4⟩ := m.at_ i _ e
  rw [h1] at h2
  cases h2
  exact ⟨p, vs, rfl, h1, h3, h4⟩

section
variable {X : Cx}

/-! ### comparisons -/
theorem op_cmp_eq (hu : X.A.units + 64 < cLine) : OpR X (compareOp .Eq) (rBin X.K (cmpD .eq)) := by
  intro pins s sg H x y v u Q I rx ry h
  obtain ⟨al, M, dx, dy, m, r1, r2, hf⟩ := h
  simp only [cmpD] at hf
  split at hf
  · rename_i hc
    simp only [Bool.and_eq_true, decide_eq_true_eq] at hc
    obtain ⟨⟨p1, p2⟩, hd⟩ := hc
    obtain ⟨a1, c1⟩ := rep_dp dx x p1 r1
    obtain ⟨a2, c2⟩ := rep_dp dy y p2 r2
    obtain ⟨as, w1⟩ := Dp.reads I _ _ _ a1 rx
    obtain ⟨bs, w2⟩ := Dp.reads I _ _ _ a2 ry
    have d1 := depth_toPy dx
    have d2 := depth_toPy dy
    refine SeqAt.compareEq_reads w1 w2 c1 c2 ?_ ⟨.bl (eqv dx dy), H, I, ?_, fin_of hf m (RepV.mkBl _)⟩
    · have hd' : min dx.depth dy.depth ≤ 64 := hd
      omega
    · show Value.bool _ = Value.bool _
      rw [eqv_toPy dx dy p1 p2]
  · exact hf.elim
theorem op_cmp_ne (hu : X.A.units + 64 < cLine) : OpR X (compareOp .NotEq) (rBin X.K (cmpD .ne)) := by
  intro pins s sg H x y v u Q I rx ry h
  obtain ⟨al, M, dx, dy, m, r1, r2, hf⟩ := h
  simp only [cmpD] at hf
  split at hf
  · rename_i hc
    simp only [Bool.and_eq_true, decide_eq_true_eq] at hc
    obtain ⟨⟨p1, p2⟩, hd⟩ := hc
    obtain ⟨a1, c1⟩ := rep_dp dx x p1 r1
    obtain ⟨a2, c2⟩ := rep_dp dy y p2 r2
    obtain ⟨as, w1⟩ := Dp.reads I _ _ _ a1 rx
    obtain ⟨bs, w2⟩ := Dp.reads I _ _ _ a2 ry
    have d1 := depth_toPy dx
    have d2 := depth_toPy dy
    refine SeqAt.compareNe_reads w1 w2 c1 c2 ?_ ⟨.bl (!eqv dx dy), H, I, ?_, fin_of hf m (RepV.mkBl _)⟩
    · have hd' : min dx.depth dy.depth ≤ 64 := hd
      omega
    · show Value.bool _ = Value.bool _
      rw [eqv_toPy dx dy p1 p2]
  · exact hf.elim
theorem op_cmp_int {o : Cop} {op : CmpOp} {g : Int → Int → Bool} (hr : OpR X (compareOp op) (rI0 fun i j => .bl (g i j)))
    (h : ∀ dx dy M, cmpD o dx dy M = .stop ∨ ∃ i j, dx = .int i ∧ dy = .int j ∧ cmpD o dx dy M = .ok (.bl (g i j)) M) : OpR X (compareOp op) (rBin X.K (cmpD o)) := by
  intro pins s sg H x y v u Q I rx ry hh
  obtain ⟨al, M, dx, dy, m, r1, r2, hf⟩ := hh
  rcases h dx dy M with e | ⟨i, j, rfl, rfl, e⟩
  · rw [e] at hf
    exact hf.elim
  · rw [e] at hf
    simp only [RepV] at r1 r2
    subst r1 r2
    exact hr pins s sg H _ _ v u Q I rx ry ⟨i, j, rfl, rfl, fin_of hf m (RepV.mkBl _)⟩
theorem op_cmp_lt : OpR X (compareOp .Lt) (rBin X.K (cmpD .lt)) := op_cmp_int op_lt fun dx dy M => by
  cases dx <;> cases dy <;> first | (left; rfl) | (right; exact ⟨_, _, rfl, rfl, rfl⟩)
theorem op_cmp_le : OpR X (compareOp .LtE) (rBin X.K (cmpD .le)) := op_cmp_int op_le fun dx dy M => by
  cases dx <;> cases dy <;> first | (left; rfl) | (right; exact ⟨_, _, rfl, rfl, rfl⟩)
theorem op_cmp_gt : OpR X (compareOp .Gt) (rBin X.K (cmpD .gt)) := op_cmp_int op_gt fun dx dy M => by
  cases dx <;> cases dy <;> first | (left; rfl) | (right; exact ⟨_, _, rfl, rfl, rfl⟩)
theorem op_cmp_ge : OpR X (compareOp .GtE) (rBin X.K (cmpD .ge)) := op_cmp_int op_ge fun dx dy M => by
  cases dx <;> cases dy <;> first | (left; rfl) | (right; exact ⟨_, _, rfl, rfl, rfl⟩)

theorem flatV_rep {K : Fr} {H : Hp} {al : Al} {d : D} {v : V} (f : flat d = true) (r : RepV K H al d v) : flatV v = true := by
  obtain ⟨k, _, rfl, _⟩ := kD_of f r
  cases k <;> rfl
theorem eqV_kV (a b : Key) : eqV (kV a) (kV b) = decide (a = b) := by
  cases a <;> cases b
  · rename_i i j
    show (i == j) = _
    rw [key_ll]
  · simp [kV, eqV]
  · simp [kV, eqV]
  · rename_i x y
    show (x == y) = _
    rw [key_rr, Bool.eq_iff_iff]
    simp
theorem inV_rep {K : Fr} {H : Hp} {al : Al} {a : D} {x : V} (fa : flat a = true) (ra : RepV K H al a x) : ∀ {l : List D} {vs : List V}, l.all flat = true → RepVs K H al l vs → vs.all flatV = true ∧ inV x vs = l.any fun z => flatEq z a
  | [], vs, _, r => by
    simp only [RepVs] at r
    subst r
    exact ⟨rfl, rfl⟩
  | d :: l, vs, f, r => by
    simp only [RepVs] at r
    obtain ⟨v, us, rfl, r1, r2⟩ := r
    simp only [List.all_cons, Bool.and_eq_true] at f
    obtain ⟨h1, h2⟩ := inV_rep fa ra f.2 r2
    obtain ⟨k, rfl, rfl, _⟩ := kD_of f.1 r1
    obtain ⟨j, rfl, rfl, _⟩ := kD_of fa ra
    refine ⟨by rw [List.all_cons, h1, flatV_rep f.1 r1]; rfl, ?_⟩
    unfold inV at h2 ⊢
    rw [List.any_cons, List.any_cons, h2, eqV_kV, flatEq_kD]

/-- in: a list, a tuple, a dict -/
theorem mem_cases {K : Fr} {H : Hp} {al : Al} {M : Mem} {dx dy : D} {x y : V} {c : Bool} (m : RepM K H al M) (r1 : RepV K H al dx x) (r2 : RepV K H al dy y) (e : memD dx dy M = some c) :
    (∃ p xs, y = .ref p ∧ (SqL K H p xs ∨ SqT K H p xs) ∧ flatV x = true ∧ xs.all flatV = true ∧ inV x xs = c) ∨ ∃ a o, y = .ref a ∧ DGet H a x o ∧ o.isSome = c := by
  have seq : ∀ {l : List D} {p : Addr} {vs : List V}, y = .ref p → (SqL K H p vs ∨ SqT K H p vs) → RepVs K H al l vs → (if flat dx && l.all flat then some (l.any fun z => flatEq z dx) else none) = some c →
      ∃ p xs, y = .ref p ∧ (SqL K H p xs ∨ SqT K H p xs) ∧ flatV x = true ∧ xs.all flatV = true ∧ inV x xs = c := by
    intro l p vs hy hs rs e
    split at e
    · rename_i hc
      cases e
      simp only [Bool.and_eq_true] at hc
      obtain ⟨h1, h2⟩ := inV_rep hc.1 r1 hc.2 rs
      exact ⟨p, vs, hy, hs, flatV_rep hc.1 r1, h1, h2⟩
    · cases e
  have dic : ∀ {tk : Bool} {kv : List (D × D)} {p : Addr} {u : HO} {us : List V}, y = .ref p → Rd H p u → DictIs tk u (kv.map (·.1)) us → RepVs K H al (kv.map (·.2)) us →
      (if isKey dx && isTupKey dx == tk then some (lookK dx kv).isSome else none) = some c → ∃ a o, y = .ref a ∧ DGet H a x o ∧ o.isSome = c := by
    intro tk kv p u us hy hr di rs e
    split at e
    · rename_i hc
      cases e
      simp only [Bool.and_eq_true] at hc
      rcases dget_of hr di rs hc.1 hc.2 r1 with ⟨h1, h2⟩ | ⟨d, v, h1, h2, _⟩
      · exact ⟨p, none, hy, h2, by rw [h1]; rfl⟩
      · exact ⟨p, some v, hy, h2, by rw [h1]; rfl⟩
    · cases e
  cases dy with
  | tup l =>
    simp only [RepV] at r2
    obtain ⟨p, vs, hy, hp, rs⟩ := r2
    exact .inl (seq hy (.inr (.inl (.inl hp))) rs e)
  | lst l =>
    simp only [RepV] at r2
    obtain ⟨p, vs, hy, hp, rs⟩ := r2
    exact .inl (seq hy (.inl hp.seq) rs e)
  | dct tk ks vs =>
    obtain ⟨p, u, us, hy, hr, di, rs⟩ := dictD r2
    right
    refine dic hy hr di rs ?_
    rw [← look2_K]
    exact e
  | obj i =>
    simp only [memD] at e
    cases ho : M[i]? with
    | none => rw [ho] at e; cases e
    | some o =>
      rw [ho] at e
      cases o with
      | lst l =>
        obtain ⟨p, vs, hy, _, hp, rs⟩ := listM m r2 ho
        exact .inl (seq hy (.inl (.inl (.inl hp))) rs e)
      | dct tk kv lck =>
        obtain ⟨p, u, us, hy, _, hr, _, di, rs⟩ := dictM m r2 ho
        exact .inr (dic hy hr di rs e)
  | _ => simp [memD] at e

theorem op_cmp_mem (hu : X.A.units + 64 < cLine) : OpR X (compareOp .In) (rBin X.K (cmpD .mem)) := by
  intro pins s sg H x y v u Q I rx ry hh
  obtain ⟨al, M, dx, dy, m, r1, r2, hf⟩ := hh
  simp only [cmpD] at hf
  cases e : memD dx dy M with
  | none => rw [e] at hf; exact hf.elim
  | some c =>
    rw [e] at hf
    have q := fin_of hf m (RepV.mkBl c)
    rcases mem_cases m r1 r2 e with ⟨p, xs, rfl, h1, h2, h3, h4⟩ | ⟨a, o, rfl, g, h4⟩
    · exact op_in_seq pins s sg H _ _ v u Q I rx ry ⟨p, xs, rfl, h1, h2, h3, by rw [h4]; exact q⟩
    · cases ry
      refine d_in (by omega) I g rx fun s' I' => ⟨.bl o.isSome, H, I', rfl, by rw [h4]; exact q⟩
theorem op_cmp_nmem (hu : X.A.units + 64 < cLine) : OpR X (compareOp .NotIn) (rBin X.K (cmpD .nmem)) := by
  intro pins s sg H x y v u Q I rx ry hh
  obtain ⟨al, M, dx, dy, m, r1, r2, hf⟩ := hh
  simp only [cmpD] at hf
  cases e : memD dx dy M with
  | none => rw [e] at hf; exact hf.elim
  | some c =>
    rw [e] at hf
    have q := fin_of hf m (RepV.mkBl (!c))
    rcases mem_cases m r1 r2 e with ⟨p, xs, rfl, h1, h2, h3, h4⟩ | ⟨a, o, rfl, g, h4⟩
    · exact op_notIn_seq pins s sg H _ _ v u Q I rx ry ⟨p, xs, rfl, h1, h2, h3, by rw [h4]; exact q⟩
    · cases ry
      refine d_notIn (by omega) I g rx fun s' I' => ⟨.bl (!o.isSome), H, I', rfl, by rw [h4]; exact q⟩

/-! ### subscripts -/
theorem idx_atI {K : Fr} {H : Hp} {al : Al} {l : List D} {vs : List V} {n : Int} {d : D} (r : RepVs K H al l vs) (e : idx? l n = some d) : ∃ v, atI vs n = some v ∧ RepV K H al d v := by
  have hl := r.length
  unfold idx? at e
  unfold atI ixN
  by_cases h0 : 0 ≤ n
  · rw [if_pos h0] at e
    have hlt := (List.getElem?_eq_some_iff.mp e).1
    rw [if_pos h0, if_pos (by omega)]
    obtain ⟨v, h1, h2⟩ := r.get e
    exact ⟨v, h1, h2⟩
  · rw [if_neg h0] at e
    by_cases h1 : -(l.length : Int) ≤ n
    · rw [if_pos h1] at e
      rw [if_neg h0, if_pos (by omega), hl]
      obtain ⟨v, h2, h3⟩ := r.get e
      exact ⟨v, h2, h3⟩
    · rw [if_neg h1] at e
      cases e

theorem ix_dict (hu : X.A.units + 64 < cLine) : IxR X (fun x y H Q => ∃ a v, x = .ref a ∧ DGet H a y (some v) ∧ Q v H) := by
  intro value slice pins s sg H x y v u Q I rx ry h hs
  obtain ⟨a, w, rfl, g, q⟩ := h
  cases rx
  have ty := dict_typeIs I g
  exact tail_any ty slot_dict_getitem.lookup (d_getItem (by omega) I g ry fun w' s' I' r' => ⟨w, H, I', r', q⟩) hs

theorem ix_D (hu : X.A.units + 64 < cLine) : IxR X (rBin X.K ixD) := by
  intro value slice pins s sg H x y v u Q I rx ry hh hs
  obtain ⟨al, M, dx, dy, m, r1, r2, hf⟩ := hh
  have seqL : ∀ {l : List D} {p : Addr} {vs : List V} {n : Int}, x = .ref p → SqL X.K H p vs → RepVs X.K H al l vs → dy = .int n → FinE X.K H al (match idx? l n with | some d => .ok d M | none => .stop) Q →
      wpAny (model X.prog X.w) X.A (subscriptTail value slice v u) (EP X pins sg Q) X.xe s := by
    intro l p vs n hx hp rs hy hf2
    subst hx hy
    cases e : idx? l n with
    | none => rw [e] at hf2; exact hf2.elim
    | some d =>
      rw [e] at hf2
      obtain ⟨w, h1, h2⟩ := idx_atI rs e
      simp only [RepV] at r2
      subst r2
      exact ix_list value slice pins s sg H _ _ v u Q I rx ry ⟨p, vs, n, w, rfl, rfl, hp, h1, fin_of hf2 m h2⟩ hs
  have dic : ∀ {tk : Bool} {kv : List (D × D)} {p : Addr} {w : HO} {us : List V}, x = .ref p → Rd H p w → DictIs tk w (kv.map (·.1)) us → RepVs X.K H al (kv.map (·.2)) us →
      FinE X.K H al (if isKey dy && isTupKey dy == tk then (match lookK dy kv with | some d => .ok d M | none => .stop) else .stop) Q → wpAny (model X.prog X.w) X.A (subscriptTail value slice v u) (EP X pins sg Q) X.xe s := by
    intro tk kv p w us hx hr di rs hf2
    subst hx
    split at hf2
    · rename_i hc
      simp only [Bool.and_eq_true] at hc
      rcases dget_of hr di rs hc.1 hc.2 r2 with ⟨h1, h2⟩ | ⟨d, z, h1, h2, h3⟩
      · rw [h1] at hf2
        exact hf2.elim
      · rw [h1] at hf2
        exact ix_dict hu value slice pins s sg H _ _ v u Q I rx ry ⟨p, z, rfl, h2, fin_of hf2 m h3⟩ hs
    · exact hf2.elim
  cases dx with
  | tup l =>
    simp only [RepV] at r1
    obtain ⟨p, vs, rfl, hp, rs⟩ := r1
    cases dy with
    | int n =>
      simp only [ixD] at hf
      cases e : idx? l n with
      | none => rw [e] at hf; exact hf.elim
      | some d =>
        rw [e] at hf
        obtain ⟨w, h1, h2⟩ := idx_atI rs e
        simp only [RepV] at r2
        subst r2
        exact ix_tup value slice pins s sg H _ _ v u Q I rx ry ⟨p, vs, n, w, rfl, rfl, .inl (.inl hp), h1, fin_of hf m h2⟩ hs
    | _ => simp [ixD, FinE] at hf
  | lst l =>
    simp only [RepV] at r1
    obtain ⟨p, vs, hx, hp, rs⟩ := r1
    cases dy with
    | int n => exact seqL hx hp.seq rs rfl hf
    | _ => simp [ixD, FinE] at hf
  | str z =>
    simp only [RepV] at r1
    obtain ⟨rfl, ok⟩ := r1
    cases dy with
    | int n =>
      simp only [ixD] at hf
      by_cases hz : z.length ≤ line
      · rw [if_pos (decide_eq_true hz)] at hf
        cases e : idx? (z.map fun c => D.str [c]) n with
        | none => rw [e] at hf; exact hf.elim
        | some d =>
          rw [e] at hf
          simp only [RepV] at r2
          subst r2
          have hc : ∃ c, atI z n = some c ∧ d = .str [c] := by
            unfold idx? at e
            unfold atI ixN
            rw [List.length_map] at e
            by_cases h0 : 0 ≤ n
            · rw [if_pos h0, List.getElem?_map] at e
              cases q : z[n.toNat]? with
              | none => rw [q] at e; cases e
              | some c =>
                rw [q] at e
                have hlt := (List.getElem?_eq_some_iff.mp q).1
                rw [if_pos h0, if_pos (by omega)]
                exact ⟨c, q, by simpa using e.symm⟩
            · rw [if_neg h0] at e
              by_cases h1 : -(z.length : Int) ≤ n
              · rw [if_pos h1, List.getElem?_map] at e
                cases q : z[(n + z.length).toNat]? with
                | none => rw [q] at e; cases e
                | some c =>
                  rw [q] at e
                  rw [if_neg h0, if_pos h1]
                  exact ⟨c, q, by simpa using e.symm⟩
              · rw [if_neg h1] at e; cases e
          obtain ⟨c, h1, rfl⟩ := hc
          have hm : c ∈ z := by
            obtain ⟨j, _, h2, _⟩ := atI_get h1
            exact List.mem_of_getElem? h2
          refine ix_str value slice pins s sg H _ _ v u Q I rx ry ⟨_, n, c, rfl, rfl, ?_, h1, ?_⟩ hs
          · show z.toArray.size ≤ sizeLine
            rw [← line_eq]
            simpa using hz
          · refine fin_of hf m (RepV.mkStr ((strOk_iff _).mpr fun k hk => ?_))
            rw [List.mem_singleton.mp hk]
            exact (strOk_iff z).mp ok c hm
      · rw [if_neg (by simpa using hz)] at hf
        exact hf.elim
    | _ => simp [ixD, FinE] at hf
  | dct tk ks vs =>
    obtain ⟨p, w, us, hx, hr, di, rs⟩ := dictD r1
    refine dic hx hr di rs ?_
    rw [← look2_K]
    cases dy <;> exact hf
  | obj i =>
    cases ho : M[i]? with
    | none => cases dy <;> simp [ixD, ho, FinE] at hf
    | some o =>
      cases o with
      | lst l =>
        obtain ⟨p, vs, hx, _, hp, rs⟩ := listM m r1 ho
        cases dy with
        | int n =>
          refine seqL hx (.inl (.inl hp)) rs rfl ?_
          simp only [ixD, ho] at hf
          exact hf
        | _ => simp [ixD, ho, FinE] at hf
      | dct tk kv lck =>
        obtain ⟨p, w, us, hx, _, hr, _, di, rs⟩ := dictM m r1 ho
        refine dic hx hr di rs ?_
        cases dy <;> (simp only [ixD, ho] at hf; exact hf)
  | _ => cases dy <;> simp [ixD, FinE] at hf
end
end MP
set_option Elab.async false
set_option linter.all false
set_option maxRecDepth 100000
set_option autoImplicit false
namespace MP
open PySem PySem.Spec PyProof.Rows L2

/-! ### slices -/
theorem loI_eq (n : Nat) (lo : Option Int) : loI n lo = HT.sIx n 0 lo := by
  cases lo with
  | none => rfl
  | some i => rfl
theorem hiI_eq (n : Nat) (hi : Option Int) : hiI n hi = HT.sIx n n hi := by
  cases hi with
  | none => rfl
  | some i => rfl
theorem cut_rep {K : Fr} {H : Hp} {al : Al} {l : List D} {vs : List V} (lo hi : Option Int) (r : RepVs K H al l vs) : RepVs K H al (cut l lo hi) (cutV vs lo hi) := by
  unfold cut cutV
  rw [loI_eq, hiI_eq, r.length]
  exact (r.drop _).take _
theorem cut_all {l : List D} {lo hi : Option Int} (h : HT.sIx l.length 0 lo = 0 ∧ HT.sIx l.length l.length hi = l.length) : cut l lo hi = l := by
  unfold cut
  rw [loI_eq, hiI_eq, h.1, h.2]
  simp

section
variable {X : Cx}
def rSlD (K : Fr) : V → Option Int → Option Int → Hp → VK → Prop := fun x lo hi H Q => ∃ al M d, RepM K H al M ∧ RepV K H al d x ∧ FinE K H al (slD d lo hi M) Q
theorem sl_D : SlR X (rSlD X.K) := by
  intro pins s sg H x v vl vu lo hi sl Q I rx hs pl pu h
  obtain ⟨al, M, d, m, r, hf⟩ := h
  cases d with
  | tup l =>
    have r0 := r
    simp only [RepV] at r
    obtain ⟨p, vs, rfl, hp, rs⟩ := r
    refine sl_tupA pins s sg H _ v vl vu lo hi sl Q I rx hs pl pu ⟨p, vs, rfl, .inl (.inl hp), fun hw => ?_, fun _ q hq => ?_⟩
    · rw [rs.length] at hw
      have hf' : FinE X.K H al (.ok (.tup (cut l lo hi)) M) Q := hf
      rw [cut_all hw] at hf'
      exact fin_of hf' m r0
    · exact fin_tup (l := cut l lo hi) hf m (cut_rep lo hi rs) hq
  | lst l =>
    simp only [RepV] at r
    obtain ⟨p, vs, rfl, hp, rs⟩ := r
    exact sl_list pins s sg H _ v vl vu lo hi sl Q I rx hs pl pu ⟨p, vs, rfl, hp.seq, fun q hq => fin_lst (l := cut l lo hi) hf m (cut_rep lo hi rs) hq⟩
  | _ => exact hf.elim

/-! ### t[::-1] of a tuple -/
theorem getItem_tuple_rev {prog : Program} {w : World} {A : Around} {E : Value → Shared → Prop} {s : Shared} {t sl : Addr} {items : Array Value} {vl vu vs : Value} {Q : Value → Shared → Prop} (ht : IsTup s.heap t items) (hs : s.heap.IsSliceOf sl vl vu vs)
    (pl : IsPart vl none) (pu : IsPart vu none) (ps : IsPart vs (some (-1)))
    (h : Q (.ref s.heap.objs.size) { s with heap := s.heap.push { cls := .type "tuple", data := .seq items.toList.reverse.toArray } }) (hsz : items.size ≤ sizeLine) : wpAny (model prog w) A (getItem (.ref t) (.ref sl)) Q E s := by
  have hsz2 : sizeOk (.seq items.toList.reverse.toArray) := by
    show items.toList.reverse.toArray.size ≤ sizeLine
    simpa using hsz
  obtain ⟨os, hos, hcs, hds⟩ := id hs
  have hTs : s.TypeIs (.ref sl) "slice" := ⟨os, hos, hcs⟩
  unfold getItem
  try with_reducible refine wpAny_holding ?_
  first | refine wpAny_bind (wpAny_pure ?_) | skip
  refine wpAny_bind (wpAny_sequenceKey ht.typeIs (by decide) ?_)
  have sp := PyProof.Rows.slot_tuple_getitem
  refine wpAny_bind (wpAny_callSpecial?_slot (name := Str.ofString "__getitem__") ht.typeIs sp (wpAny_call_entry sp ht.typeIs entry_tuple_getitem ?_ (args_tuple_getitem _ _)))
  show wpAny _ _ (Builtin.Tuple.tupleItemsOf (.ref t) >>= _) _ _ s
  refine wpAny_bind (tupleItemsOf_ ht ?_)
  refine wpAny_bind (wpAny_typeOf hTs ?_)
  rw [if_pos (by decide)]
  have adj : Builtin.Slice.sliceAdjust none none (-1) (items.size : Int) = ((items.size : Int) - 1, -1) := by
    unfold Builtin.Slice.sliceAdjust
    rfl
  have plc : Builtin.Slice.slicePlaces ((items.size : Int) - 1) (-1) (-1) = items.size := by
    unfold Builtin.Slice.slicePlaces
    rw [if_neg (by decide)]
    by_cases h0 : (items.size : Int) - 1 > -1
    · rw [if_pos h0, show (- -1 : Int) = 1 by decide, Int.ediv_one]
      omega
    · rw [if_neg h0]
      omega
  have pick : ((List.range items.size).filterMap fun (k : Nat) => items[((items.size : Int) - 1 + (k : Int) * -1).toNat]?).toArray = items.toList.reverse.toArray := by
    have e : (fun (k : Nat) => items[((items.size : Int) - 1 + (k : Int) * -1).toNat]?) = (fun x => items[x]?) ∘ fun k => items.size - 1 - k := by
      funext k
      show items[_]? = items[items.size - 1 - k]?
      congr 1
      omega
    rw [e, ← List.filterMap_map, PySem.W.krv_range, List.filterMap_reverse, PySem.W.krv_all]
  refine wpAny_bind ?_
  unfold Builtin.Slice.sliceApplied Builtin.Slice.sliceFields
  refine wpAny_bind (wpAny_bind (wpAny_field hos hds (x := vl) rfl (wpAny_bind (wpAny_field hos hds (x := vu) rfl (wpAny_bind (wpAny_field hos hds (x := vs) rfl (wpAny_pure ?_)))))))
  refine wpAny_bind (HT.slicePart_ ps ?_)
  show wpAny _ _ (if ((-1 : Int) == 0) = true then _ else _) _ _ s
  rw [if_neg (by decide)]
  refine wpAny_bind (HT.slicePart_ pl (wpAny_bind (HT.slicePart_ pu (wpAny_bind (wpAny_pure ?_)))))
  show wpAny _ _ (match Builtin.Slice.sliceAdjust none none (-1) (items.size : Int) with | (lo, hi) => pure (lo, (-1 : Int), Builtin.Slice.slicePlaces lo hi (-1))) _ _ s
  rw [adj]
  show wpAny _ _ (pure ((items.size : Int) - 1, (-1 : Int), Builtin.Slice.slicePlaces ((items.size : Int) - 1) (-1) (-1))) _ _ s
  rw [plc]
  refine wpAny_pure ?_
  have hno : ¬ (((items.size : Int) - 1 == 0 && (-1 : Int) == 1 && items.size == items.size) = true) := by
    rw [show ((-1 : Int) == 1) = false from rfl, Bool.and_false, Bool.false_and]
    exact Bool.false_ne_true
  show wpAny _ _ (if ((items.size : Int) - 1 == 0 && (-1 : Int) == 1 && items.size == items.size) = true then _ else _) _ _ s
  rw [if_neg hno, pick]
  first
    | exact wpAny_bind (m := Builtin.Tuple.tupleExact _) (wpAny_newObj_type (wpAny_pure ⟨_, rfl, wpAny_pure h⟩) hsz2)
    | exact wpAny_bind (wpAny_bind (m := Builtin.Tuple.tupleExact _) (wpAny_newObj_type (wpAny_pure (wpAny_pure ⟨_, rfl, wpAny_pure h⟩)) hsz2))

def tRevT (te : TE) : TE := fun sg H Q => te sg H fun x H1 => ∃ a xs, x = .ref a ∧ H1 a = some (.tup xs) ∧ ∀ p, H1 p = none → Q (.ref p) (upd H1 p (.tup xs.reverse))
theorem pe_revT {e : Expr} {te : TE} {k : Nat} {p1 p2 p3 pos : Pos} (he : PE X e te) : PE X (.Subscript e (.Slice none none (some (.UnaryOp .USub (.Constant (.int 1) k p1) p2)) p3) pos) (tRevT te) := by
  constructor
  intro pins s sg H Q I h
  refine Subscript_ (thn (he.run pins s sg H _ I h) fun v s1 hv => ?_)
  obtain ⟨x, H1, I1, r1, a, xs, rfl, hx, q⟩ := hv
  cases r1
  have hst : PO X (some (.UnaryOp .USub (.Constant (.int 1) k p1) p2)) (tPart (tUn (rU fun i => .int (-i)) (tC (.int 1)))) := po_some (pe_un un_neg pe_int)
  refine wpAny_Slice (thn (po_none.run pins s1 sg H1 (fun o H2 => o = none ∧ H2 = H1) I1 ⟨rfl, rfl⟩) fun vl s2 h2 => ?_)
  obtain ⟨l, H2, I2, pl, el, e2⟩ := h2
  subst el e2
  refine thn (po_none.run pins s2 sg H2 (fun o H3 => o = none ∧ H3 = H2) I2 ⟨rfl, rfl⟩) fun vu s3 h3 => ?_
  obtain ⟨u, H3, I3, pu, eu, e3⟩ := h3
  subst eu e3
  refine thn (hst.run pins s3 sg H3 (fun o H4 => o = some (-1) ∧ H4 = H3) I3 ⟨1, rfl, -1, rfl, rfl, rfl⟩) fun vs s4 h4 => ?_
  obtain ⟨o, H4, I4, ps, eo, e4⟩ := h4
  subst eo e4
  have I5 : Inv X pins sg H4 { s4 with heap := s4.heap.push { cls := .type "slice", data := .fields #[vl, vu, vs] } } := I4.kept (t' := s4.toks) fun b ob z => Heap.get?_push_of_some _ z
  obtain ⟨its, r, ht, hz⟩ := I5.tuple (.inl (.inl hx))
  have hlen := r.length
  have hsl : ({ s4 with heap := s4.heap.push { cls := .type "slice", data := .fields #[vl, vu, vs] } } : Shared).heap.IsSliceOf s4.heap.objs.size vl vu vs := Heap.IsSliceOf.new _ vl vu vs
  refine tail_any (value := e) (slice := .Slice none none (some (.UnaryOp .USub (.Constant (.int 1) k p1) p2)) p3) (ops := [.ref a, .ref s4.heap.objs.size]) ht.typeIs slot_tuple_getitem.lookup ?_ (by with_unfolding_all rfl)
  refine getItem_tuple_rev ht hsl pl pu ps ?_ (by rw [List.size_toArray]; omega)
  refine ⟨.ref _, _, I5.laid (t' := s4.toks) (o := .tup xs.reverse) (fun b ob z => Heap.get?_push_of_some _ z) (Nat.le_refl _) ?_, rfl, q _ (I5.hok.fresh (Nat.le_refl _))⟩
  exact ⟨by rw [List.length_reverse]; exact hz, _, r.reverse, IsTup.new _ _⟩
end
end MP
set_option Elab.async false
set_option linter.all false
set_option maxRecDepth 100000
set_option autoImplicit false
namespace MP
open PySem PySem.Spec PyProof.Rows L2

/-! ### repr -/
mutual
theorem wide_ok : ∀ d : D, D.pure d = true → D.wide d ≤ line → (toPy d).showable = true ∧ (toPy d).hasDict = false
  | .non, _, _ => by simp [toPy, PyData.showable, PyData.hasDict]
  | .bl _, _, _ => by simp [toPy, PyData.showable, PyData.hasDict]
  | .int i, _, h => by
    simp only [D.wide] at h
    split at h
    · rename_i hi
      refine ⟨?_, by simp [toPy, PyData.hasDict]⟩
      simp only [toPy, PyData.showable, decide_eq_true_eq]
      by_cases h0 : i.natAbs = 0
      · rw [h0]; decide
      · rw [Nat.log2_lt h0]
        exact Nat.lt_trans hi (by decide)
    · omega
  | .str _, _, _ => by simp [toPy, PyData.showable, PyData.hasDict]
  | .tup l, hp, h => by
    have q := wides_ok l (by simpa [D.pure] using hp) (by simp only [D.wide] at h; omega)
    simpa [toPy, PyData.showable, PyData.hasDict] using q
  | .lst l, hp, h => by
    have q := wides_ok l (by simpa [D.pure] using hp) (by simp only [D.wide] at h; omega)
    simpa [toPy, PyData.showable, PyData.hasDict] using q
  | .dct _ _ _, hp, _ => by simp [D.pure] at hp
  | .obj _, hp, _ => by simp [D.pure] at hp
  | .opq, hp, _ => by simp [D.pure] at hp
theorem wides_ok : ∀ l : List D, D.pureAll l = true → D.wideAll l ≤ line → PyData.showableAll (toPys l) = true ∧ PyData.hasDictAll (toPys l) = false
  | [], _, _ => by simp [toPys, PyData.showableAll, PyData.hasDictAll]
  | d :: r, hp, h => by
    simp only [D.pureAll, Bool.and_eq_true] at hp
    simp only [D.wideAll] at h
    obtain ⟨a1, a2⟩ := wide_ok d hp.1 (by omega)
    obtain ⟨b1, b2⟩ := wides_ok r hp.2 (by omega)
    simp [toPys, PyData.showableAll, PyData.hasDictAll, a1, a2, b1, b2]
end
theorem ofString_len (s : String) : (Str.ofString s).length = s.length := by
  rw [Str.ofString_eq_toList]
  show ((s.toList.map Char.toNat).toArray).size = _
  rw [List.size_toArray, List.length_map]
  first | exact String.length_toList | rfl | simp
mutual
theorem shown_len : ∀ d : D, D.pure d = true → D.wide d ≤ line → (∀ v K H al, RepV K H al d v → True) → (toPy d).canLay0 = true → (toPy d).shown.length ≤ D.wide d
  | .non, _, _, _, _ => by
    simp only [toPy, PyData.shown, D.wide]
    exact Nat.le_of_eq (ofString_len "None")
  | .bl b, _, _, _, _ => by
    simp only [toPy, PyData.shown, D.wide]
    cases b
    · exact Nat.le_of_eq (ofString_len "False")
    · exact Nat.le_trans (Nat.le_of_eq (ofString_len "True")) (by decide)
  | .int i, _, h, _, _ => by
    simp only [D.wide] at h ⊢
    split at h
    · rename_i hi
      rw [if_pos hi]
      simp only [toPy, PyData.shown]
      rw [ofString_len]
      exact int_text_length_le10 (k := 40) (by decide) hi
    · omega
  | .str s, _, _, _, hc => by
    simp only [toPy, PyData.shown, D.wide]
    have hc' : PyData.strOk ⟨s.toArray⟩ = true := by simpa [toPy, PyData.canLay0] using hc
    have q := PySem.StrLaws.reprText_len ⟨s.toArray⟩ (fun c hm => Nat.lt_trans ((strOk_iff s).mp hc' c (by simpa using hm)) (by decide))
    exact Nat.le_trans q (by show 10 * s.toArray.size + 2 ≤ _; simp)
  | .tup l, hp, h, _, hc => by
    simp only [D.wide] at h ⊢
    have q := showns_len l (by simpa [D.pure] using hp) (by omega) (by simpa [toPy, PyData.canLay0] using hc)
    have t := tupleText_len_le (PyData.shownAll (toPys l))
    simp only [toPy, PyData.shown]
    omega
  | .lst l, hp, h, _, hc => by
    simp only [D.wide] at h ⊢
    have q := showns_len l (by simpa [D.pure] using hp) (by omega) (by simpa [toPy, PyData.canLay0] using hc)
    have t := listText_len_le (PyData.shownAll (toPys l))
    simp only [toPy, PyData.shown]
    omega
  | .dct _ _ _, hp, _, _, _ => by simp [D.pure] at hp
  | .obj _, hp, _, _, _ => by simp [D.pure] at hp
  | .opq, hp, _, _, _ => by simp [D.pure] at hp
theorem showns_len : ∀ l : List D, D.pureAll l = true → D.wideAll l ≤ line → PyData.canLayAll0 (toPys l) = true → ((PyData.shownAll (toPys l)).map (·.length)).sum + 2 * (PyData.shownAll (toPys l)).length ≤ D.wideAll l
  | [], _, _, _ => by simp [toPys, PyData.shownAll, D.wideAll]
  | d :: r, hp, h, hc => by
    simp only [D.pureAll, Bool.and_eq_true] at hp
    simp only [D.wideAll] at h
    simp only [toPys, PyData.canLayAll0, Bool.and_eq_true] at hc
    have a := shown_len d hp.1 (by omega) (fun _ _ _ _ _ => trivial) hc.1
    have b := showns_len r hp.2 (by omega) hc.2
    simp only [toPys, PyData.shownAll, D.wideAll, List.map_cons, List.sum_cons, List.length_cons]
    omega
end

section
variable {X : Cx}
theorem call_repr_D (hg : X.A.guards = some []) (hu : X.A.units + 70 < cLine) : CallR X (.builtin "repr") (fun xs H Q => ∃ al d x, xs = [x] ∧ RepV X.K H al d x ∧ showOk d = true ∧ Q (.str (toPy d).shown) H) := by
  intro pins s sg H xs us Q I rs h
  obtain ⟨al, d, x, rfl, r, ok, q⟩ := h
  obtain ⟨u, rfl, ru⟩ := vals1 rs
  simp only [showOk, Bool.and_eq_true, decide_eq_true_eq] at ok
  obtain ⟨⟨hp, hd⟩, hw⟩ := ok
  obtain ⟨h1, h2⟩ := wide_ok d hp hw
  obtain ⟨dp, cl⟩ := rep_dp d x hp r
  have hl : (toPy d).shown.length ≤ sizeLine := by
    rw [← line_eq]
    exact Nat.le_trans (shown_len d hp hw (fun _ _ _ _ _ => trivial) cl) hw
  have hdep := depth_toPy d
  have ref : ∀ a, x = .ref a → wpAny (model X.prog X.w) X.A (call (.builtin "repr") [u]) (EP X pins sg Q) X.xe s := fun a hx => by
    subst hx
    obtain ⟨as, rd⟩ := Dp.reads I _ _ _ dp ru
    cases ru
    refine repr_of_reads' rd h1 (PySem.PyData.noDict_hsm h2) hg (by omega) (fun _ _ e => e) (fun h' u' tk kp => ?_) hl
    exact ⟨.str (toPy d).shown, H, I.kept kp, ⟨_, rfl⟩, q⟩
  cases d with
  | non =>
    simp only [RepV] at r
    subst r
    cases ru
    exact PySem.P.repr_of_none ⟨.str (toPy .non).shown, H, I.tok _, ⟨_, rfl⟩, q⟩
  | bl b =>
    simp only [RepV] at r
    subst r
    cases ru
    exact PySem.P.repr_of_bool ⟨.str (toPy (.bl b)).shown, H, I.tok _, ⟨_, by simp [toPy, PyData.shown]; cases b <;> rfl⟩, q⟩
  | int i =>
    simp only [RepV] at r
    subst r
    obtain ⟨t, rfl⟩ := ru
    exact PySem.P.repr_of_int (by simpa [toPy, PyData.showable] using h1) ⟨.str (toPy (.int i)).shown, H, I.tok _, ⟨_, rfl⟩, q⟩
  | str z =>
    simp only [RepV] at r
    obtain ⟨rfl, _⟩ := r
    obtain ⟨t, rfl⟩ := ru
    exact PySem.P.repr_of_str ⟨.str (toPy (.str z)).shown, H, I.tok _, ⟨_, rfl⟩, q⟩ (by simpa [toPy, PyData.shown] using hl)
  | tup l =>
    simp only [RepV] at r
    obtain ⟨p, vs, hx, _⟩ := r
    exact ref p hx
  | lst l =>
    simp only [RepV] at r
    obtain ⟨p, vs, hx, _⟩ := r
    exact ref p hx
  | _ => simp [D.pure] at hp
end
mutual
theorem same_eq : ∀ d e : D, D.same d e = true → d = e
  | .non, e, h => by cases e <;> first | rfl | (simp [D.same] at h)
  | .bl a, e, h => by cases e <;> first | (simp [D.same] at h; done) | (simp only [D.same, beq_iff_eq] at h; rw [h])
  | .int a, e, h => by cases e <;> first | (simp [D.same] at h; done) | (simp only [D.same, beq_iff_eq] at h; rw [h])
  | .str a, e, h => by cases e <;> first | (simp [D.same] at h; done) | (simp only [D.same, beq_iff_eq] at h; rw [h])
  | .tup l, e, h => by cases e <;> first | (simp [D.same] at h; done) | (simp only [D.same] at h; rw [sames_eq _ _ h])
  | .lst l, e, h => by cases e <;> first | (simp [D.same] at h; done) | (simp only [D.same] at h; rw [sames_eq _ _ h])
  | .dct _ _ _, e, h => by cases e <;> simp [D.same] at h
  | .obj a, e, h => by cases e <;> first | (simp [D.same] at h; done) | (simp only [D.same, beq_iff_eq] at h; rw [h])
  | .opq, e, h => by cases e <;> simp [D.same] at h
theorem sames_eq : ∀ l k : List D, D.sameAll l k = true → l = k
  | [], [], _ => rfl
  | [], _ :: _, h => by simp [D.sameAll] at h
  | _ :: _, [], h => by simp [D.sameAll] at h
  | d :: r, e :: k, h => by
    simp only [D.sameAll, Bool.and_eq_true] at h
    rw [same_eq d e h.1, sames_eq r k h.2]
end
theorem pure_of_same {a b : D} (h : D.same a b = true) : a = b := same_eq a b h

/-! ### calls of builtins, by data -/
def rCall (K : Fr) (b : Bi) : List V → Hp → VK → Prop := fun xs H Q => ∃ al M ds, RepM K H al M ∧ RepVs K H al ds xs ∧ FinE K H al (biD b ds M) Q
section
variable {X : Cx}
theorem call_len_D : CallR X (.builtin "len") (rCall X.K .len) := by
  intro pins s sg H xs us Q I rs h
  obtain ⟨al, M, ds, m, r, hf⟩ := h
  have one : ∃ d, ds = [d] := by
    rcases ds with _ | ⟨d, _ | ⟨e, k⟩⟩
    · exact hf.elim
    · exact ⟨d, rfl⟩
    · cases d <;> exact hf.elim
  obtain ⟨d, rfl⟩ := one
  simp only [RepVs] at r
  obtain ⟨v, us', rfl, r, rfl⟩ := r
  cases d with
  | str z =>
    simp only [RepV] at r
    obtain ⟨rfl, _⟩ := r
    simp only [biD] at hf
    split at hf
    · rename_i hz
      simp only [decide_eq_true_eq] at hz
      refine call_len_str pins s sg H _ us Q I rs ⟨_, rfl, ?_, ?_⟩
      · show z.toArray.size ≤ sizeLine
        rw [← line_eq]
        simpa using hz
      · have e : ((⟨z.toArray⟩ : Str).length) = z.length := by show z.toArray.size = _; simp
        rw [e]
        exact fin_of hf m (RepV.mkInt _)
    · exact hf.elim
  | tup l =>
    simp only [RepV] at r
    obtain ⟨p, vs, rfl, hp, w⟩ := r
    refine call_len_seq pins s sg H _ us Q I rs ⟨p, vs, rfl, .inr (.inl (.inl hp)), ?_⟩
    rw [w.length]
    exact fin_of hf m (RepV.mkInt _)
  | lst l =>
    simp only [RepV] at r
    obtain ⟨p, vs, rfl, hp, w⟩ := r
    refine call_len_seq pins s sg H _ us Q I rs ⟨p, vs, rfl, .inl hp.seq, ?_⟩
    rw [w.length]
    exact fin_of hf m (RepV.mkInt _)
  | obj i =>
    simp only [biD] at hf
    cases ho : M[i]? with
    | none => rw [ho] at hf; exact hf.elim
    | some o =>
      rw [ho] at hf
      cases o with
      | lst l =>
        obtain ⟨p, vs, rfl, _, hp, w⟩ := listM m r ho
        refine call_len_seq pins s sg H _ us Q I rs ⟨p, vs, rfl, .inl (.inl (.inl hp)), ?_⟩
        rw [w.length]
        exact fin_of hf m (RepV.mkInt _)
      | dct tk kv lck =>
        cases tk with
        | true => exact hf.elim
        | false =>
          obtain ⟨p, u, us', rfl, _, hr, _, ⟨kvs, rfl, e1, _⟩, w⟩ := dictM m r ho
          obtain ⟨u', rfl, ru⟩ := vals1 rs
          cases ru
          have el : kvs.length = kv.length := by
            have := congrArg List.length e1
            simpa using this
          refine d_len I hr fun t s' I' => ⟨.int kv.length, H, I', ⟨t, by rw [el]⟩, fin_of hf m (RepV.mkInt _)⟩
  | _ => exact hf.elim
theorem call_int_D : CallR X (.type "int") (rCall X.K .int) := by
  intro pins s sg H xs us Q I rs h
  obtain ⟨al, M, ds, m, r, hf⟩ := h
  rcases ds with _ | ⟨d, _ | ⟨e, k⟩⟩
  · exact hf.elim
  · simp only [RepVs] at r
    obtain ⟨v, us', rfl, r, rfl⟩ := r
    cases d with
    | int i =>
      simp only [RepV] at r
      subst r
      exact call_int1 pins s sg H _ us Q I rs (.inl ⟨i, rfl, fin_of hf m (RepV.mkInt _)⟩)
    | bl b =>
      simp only [RepV] at r
      subst r
      exact call_int1 pins s sg H _ us Q I rs (.inr ⟨b, rfl, fin_of hf m (RepV.mkInt _)⟩)
    | _ => exact hf.elim
  · cases d <;> exact hf.elim
theorem intText_eq (i : Int) : (Str.ofString (toString i)) = ⟨(intText i).toArray⟩ := by
  rw [Str.ofString_eq_toList]
  cases i with
  | ofNat n =>
    have e : toString (Int.ofNat n) = Nat.repr n := rfl
    rw [e]
    have e2 : intText (Int.ofNat n) = natDigits n := by
      unfold intText
      rw [if_neg (show ¬ (Int.ofNat n < 0) from Int.not_lt.mpr (Int.natCast_nonneg n))]
      rfl
    rw [e2]
    simp [natDigits, Nat.repr]
  | negSucc n =>
    have e : toString (Int.negSucc n) = "-" ++ Nat.repr (n + 1) := rfl
    rw [e]
    have e2 : intText (Int.negSucc n) = 45 :: natDigits (n + 1) := by
      unfold intText
      rw [if_pos (by omega)]
      rfl
    rw [e2]
    simp [natDigits, Nat.repr]
theorem digit_lt (n : Nat) : ∀ c ∈ natDigits n, c < 0x110000 := by
  intro c hc
  unfold natDigits at hc
  obtain ⟨d, _, rfl⟩ := List.mem_map.mp hc
  show d.val.toNat < 0x110000
  rcases d.valid with h | h
  · exact Nat.lt_trans h (by decide)
  · exact h.2
theorem intText_ok (i : Int) : PyData.strOk ⟨(intText i).toArray⟩ = true := by
  rw [strOk_iff]
  intro c hc
  unfold intText at hc
  split at hc
  · rcases List.mem_cons.mp hc with e | e
    · rw [e]; decide
    · exact digit_lt _ c e
  · exact digit_lt _ c hc
theorem call_str_D : CallR X (.type "str") (rCall X.K .str) := by
  intro pins s sg H xs us Q I rs h
  obtain ⟨al, M, ds, m, r, hf⟩ := h
  rcases ds with _ | ⟨d, _ | ⟨e, k⟩⟩
  · exact hf.elim
  · simp only [RepVs] at r
    obtain ⟨v, us', rfl, r, rfl⟩ := r
    cases d with
    | int i =>
      simp only [RepV] at r
      subst r
      simp only [biD] at hf
      split at hf
      · rename_i hi
        simp only [decide_eq_true_eq] at hi
        refine call_str_int pins s sg H _ us Q I rs ⟨i, rfl, ?_, ?_⟩
        · by_cases h0 : i.natAbs = 0
          · rw [h0]; decide
          · rw [Nat.log2_lt h0]
            exact Nat.lt_trans hi (by decide)
        · rw [intText_eq]
          exact fin_of hf m (RepV.mkStr (intText_ok i))
      · exact hf.elim
    | _ => exact hf.elim
  · cases d <;> exact hf.elim
theorem call_tuple_D : CallR X (.type "tuple") (rCall X.K .tuple) := by
  intro pins s sg H xs us Q I rs h
  obtain ⟨al, M, ds, m, r, hf⟩ := h
  rcases ds with _ | ⟨d, _ | ⟨e, k⟩⟩
  · exact hf.elim
  · simp only [RepVs] at r
    obtain ⟨v, us', rfl, r, rfl⟩ := r
    cases d with
    | tup l =>
      have r0 := r
      simp only [RepV] at r
      obtain ⟨p, vs, rfl, hp, w⟩ := r
      exact call_tuple_of pins s sg H _ us Q I rs ⟨p, vs, rfl, .inr ⟨.inl (.inl hp), fin_of hf m r0⟩⟩
    | lst l =>
      simp only [RepV] at r
      obtain ⟨p, vs, rfl, hp, w⟩ := r
      exact call_tuple_of pins s sg H _ us Q I rs ⟨p, vs, rfl, .inl ⟨hp.seq, fun q hq => fin_tup hf m w hq⟩⟩
    | obj i =>
      simp only [biD] at hf
      cases ho : M[i]? with
      | none => rw [ho] at hf; exact hf.elim
      | some o =>
        rw [ho] at hf
        cases o with
        | lst l =>
          obtain ⟨p, vs, rfl, _, hp, w⟩ := listM m r ho
          exact call_tuple_of pins s sg H _ us Q I rs ⟨p, vs, rfl, .inl ⟨.inl (.inl hp), fun q hq => fin_tup hf m w hq⟩⟩
        | dct _ _ _ => exact hf.elim
    | _ => exact hf.elim
  · cases d <;> exact hf.elim
theorem kD_kV {K : Fr} {H : Hp} {al : Al} {k : Key} (h : keyOk k) : RepV K H al (kD k) (kV k) := by
  cases k with
  | inl i => exact RepV.mkInt i
  | inr x =>
    have e : (⟨x.cps.toList.toArray⟩ : Str) = x := by cases x; simp
    have q := RepV.mkStr (K := K) (H := H) (al := al) (s := x.cps.toList) (by rw [e]; exact h)
    rw [e] at q
    exact q
theorem call_list_D (hc : X.calm = true) : CallR X (.type "list") (rCall X.K .listV) := by
  intro pins s sg H xs us Q I rs h
  obtain ⟨al, M, ds, m, r, hf⟩ := h
  rcases ds with _ | ⟨d, _ | ⟨e, k⟩⟩
  · exact hf.elim
  · simp only [RepVs] at r
    obtain ⟨v, us', rfl, r, rfl⟩ := r
    cases d with
    | tup l =>
      simp only [RepV] at r
      obtain ⟨p, vs, rfl, hp, w⟩ := r
      exact call_list_of pins s sg H _ us Q I rs ⟨p, vs, rfl, .inr (.inl (.inl hp)), fun q hq => fin_lst hf m w hq⟩
    | lst l =>
      simp only [RepV] at r
      obtain ⟨p, vs, rfl, hp, w⟩ := r
      exact call_list_of pins s sg H _ us Q I rs ⟨p, vs, rfl, .inl hp.seq, fun q hq => fin_lst hf m w hq⟩
    | obj i =>
      simp only [biD] at hf
      cases ho : M[i]? with
      | none => rw [ho] at hf; exact hf.elim
      | some o =>
        rw [ho] at hf
        cases o with
        | lst l =>
          obtain ⟨p, vs, rfl, _, hp, w⟩ := listM m r ho
          exact call_list_of pins s sg H _ us Q I rs ⟨p, vs, rfl, .inl (.inl (.inl hp)), fun q hq => fin_lst hf m w hq⟩
        | dct tk kv lck =>
          cases tk with
          | true => exact hf.elim
          | false =>
            cases lck with
            | true => exact hf.elim
            | false =>
              obtain ⟨p, u, us', rfl, _, _, hr, ⟨kvs, rfl, e1, _, ok⟩, w⟩ := dictM m r ho
              refine call_list_dK hc pins s sg H _ us Q I rs ⟨p, kvs, rfl, hr rfl, fun q hq => ?_⟩
              refine fin_lst hf m ?_ hq
              rw [← e1]
              have go : ∀ l : List (Key × V), (∀ z ∈ l, keyOk z.1) → RepVs X.K H al (l.map fun z => kD z.1) (l.map fun z => kV z.1) := by
                intro l
                induction l with
                | nil => intro _; exact RepVs.nil
                | cons z l ih => exact fun hz => RepVs.cons (kD_kV (hz z List.mem_cons_self)) (ih fun y hy => hz y (List.mem_cons_of_mem _ hy))
              exact go kvs ok
    | _ => exact hf.elim
  · cases d <;> exact hf.elim
theorem call_min_D (hc : X.calm = true) : CallR X (.builtin "min") (rCall X.K .min) := by
  intro pins s sg H xs us Q I rs h
  obtain ⟨al, M, ds, m, r, hf⟩ := h
  rcases ds with _ | ⟨d, _ | ⟨e, _ | ⟨g, k⟩⟩⟩
  · exact hf.elim
  · cases d <;> exact hf.elim
  · cases d <;> cases e <;> first
      | exact hf.elim
      | (simp only [RepVs, RepV] at r
         obtain ⟨v, us', rfl, rfl, w, us2, rfl, rfl, rfl⟩ := r
         exact call_min2 hc pins s sg H _ us Q I rs ⟨_, _, rfl, fin_of hf m (RepV.mkInt _)⟩)
  · cases d <;> cases e <;> exact hf.elim
theorem call_max_D (hc : X.calm = true) : CallR X (.builtin "max") (rCall X.K .max) := by
  intro pins s sg H xs us Q I rs h
  obtain ⟨al, M, ds, m, r, hf⟩ := h
  rcases ds with _ | ⟨d, _ | ⟨e, _ | ⟨g, k⟩⟩⟩
  · exact hf.elim
  · cases d <;> exact hf.elim
  · cases d <;> cases e <;> first
      | exact hf.elim
      | (simp only [RepVs, RepV] at r
         obtain ⟨v, us', rfl, rfl, w, us2, rfl, rfl, rfl⟩ := r
         exact call_max2 hc pins s sg H _ us Q I rs ⟨_, _, rfl, fin_of hf m (RepV.mkInt _)⟩)
  · cases d <;> cases e <;> exact hf.elim
end
end MP
set_option Elab.async false
set_option linter.all false
set_option maxRecDepth 100000
set_option autoImplicit false
namespace MP
open PySem PySem.Spec PyProof.Rows L2

/-! ### sorted texts -/
theorem lt_cps : ∀ a b : List Nat, ltStr a b = ltCps a b
  | [], [] => rfl
  | [], _ :: _ => rfl
  | _ :: _, [] => rfl
  | a :: r, b :: s => by
    show (if a < b then true else if b < a then false else ltStr r s) = (decide (a < b) || (a == b && ltCps r s))
    rw [lt_cps r s]
    by_cases h : a < b
    · simp [h]
    · by_cases h2 : b < a
      · have : ¬ a = b := by omega
        simp [h, h2, this]
      · have : a = b := by omega
        simp [this]
theorem lt_irrefl : ∀ a : List Nat, ltStr a a = false
  | [] => rfl
  | a :: r => by simp [ltStr, lt_irrefl r]
theorem lt_asymm : ∀ a b : List Nat, ltStr a b = true → ltStr b a = false
  | [], [], h => by cases h
  | [], _ :: _, _ => rfl
  | _ :: _, [], h => by cases h
  | a :: r, b :: s, h => by
    simp only [ltStr] at h ⊢
    by_cases h1 : a < b
    · have : ¬ b < a := by omega
      simp [h1, this]
    · by_cases h2 : b < a
      · simp [h1, h2] at h
      · simp only [h1, h2, if_false] at h ⊢
        exact lt_asymm r s h
theorem lt_total : ∀ a b : List Nat, ltStr a b = false → ltStr b a = false → a = b
  | [], [], _, _ => rfl
  | [], _ :: _, h, _ => by cases h
  | _ :: _, [], _, h => by cases h
  | a :: r, b :: s, h, g => by
    simp only [ltStr] at h g
    by_cases h1 : a < b
    · simp [h1] at h
    · by_cases h2 : b < a
      · simp [h2] at g
      · simp only [h1, h2, if_false] at h g
        have : a = b := by omega
        rw [this, lt_total r s h g]
theorem le_trans' : ∀ a b c : List Nat, ltStr b a = false → ltStr c b = false → ltStr c a = false
  | [], _, [], _, _ => rfl
  | [], b, c :: t, h, g => rfl
  | a :: r, [], c, h, g => by cases h
  | a :: r, b :: s, [], h, g => by cases g
  | a :: r, b :: s, c :: t, h, g => by
    simp only [ltStr] at h g ⊢
    by_cases h1 : b < a
    · simp [h1] at h
    · by_cases g1 : c < b
      · simp [g1] at g
      · have k1 : ¬ c < a := by omega
        simp only [h1, g1, k1, if_false] at h g ⊢
        by_cases k2 : a < c
        · simp [k2]
        · have e1 : a = b := by omega
          have e2 : b = c := by omega
          have q1 : ¬ a < b := by omega
          have q2 : ¬ b < c := by omega
          simp only [k2, q1, q2, if_false] at h g ⊢
          exact le_trans' r s t h g
def leS (a b : List Nat) : Prop := ltStr b a = false
theorem ins_perm (x : List Nat) : ∀ l, (insS x l).Perm (x :: l)
  | [] => List.Perm.refl _
  | y :: r => by
    show (if ltStr y x then y :: insS x r else x :: y :: r).Perm _
    split
    · exact ((ins_perm x r).cons y).trans (List.Perm.swap x y r)
    · exact List.Perm.refl _
theorem sort_perm : ∀ l, (sortS l).Perm l
  | [] => List.Perm.refl _
  | x :: r => (ins_perm x (sortS r)).trans ((sort_perm r).cons x)
theorem ins_sorted (x : List Nat) : ∀ l, l.Pairwise leS → (insS x l).Pairwise leS
  | [], _ => by simp [insS]
  | y :: r, h => by
    rw [List.pairwise_cons] at h
    show (if ltStr y x then y :: insS x r else x :: y :: r).Pairwise leS
    split
    · rename_i hy
      rw [List.pairwise_cons]
      refine ⟨fun z hz => ?_, ins_sorted x r h.2⟩
      rcases List.mem_cons.mp ((ins_perm x r).mem_iff.mp hz) with e | e
      · rw [e]; exact lt_asymm y x hy
      · exact h.1 z e
    · rename_i hy
      have hy' : leS x y := by simpa [leS] using hy
      rw [List.pairwise_cons]
      refine ⟨fun z hz => ?_, List.pairwise_cons.mpr h⟩
      rcases List.mem_cons.mp hz with e | e
      · rw [e]; exact hy'
      · exact le_trans' x y z hy' (h.1 z e)
theorem sort_sorted : ∀ l, (sortS l).Pairwise leS
  | [] => List.Pairwise.nil
  | x :: r => ins_sorted x _ (sort_sorted r)
theorem rising_pw : ∀ (r : List Str) (p : Str), risingS p r = true → (p :: r).Pairwise fun a b => leS a.cps.toList b.cps.toList
  | [], p, _ => by simp
  | x :: r, p, h => by
    simp only [risingS, Bool.and_eq_true, Bool.not_eq_true'] at h
    have ih := rising_pw r x h.2
    rw [List.pairwise_cons]
    refine ⟨fun z hz => ?_, ih⟩
    have hx : leS p.cps.toList x.cps.toList := by unfold leS; rw [lt_cps]; exact h.1
    rcases List.mem_cons.mp hz with e | e
    · rw [e]; exact hx
    · exact le_trans' _ _ _ hx ((List.pairwise_cons.mp ih).1 z e)
theorem sortedS_pw : ∀ l : List Str, sortedS l = true → l.Pairwise fun a b => leS a.cps.toList b.cps.toList
  | [], _ => List.Pairwise.nil
  | x :: r, h => rising_pw r x h
theorem sort_unique {ys : List Str} {l : List (List Nat)} (hp : ys.Perm (l.map fun s => ⟨s.toArray⟩)) (hs : ys.Pairwise fun a b => leS a.cps.toList b.cps.toList) : ys = (sortS l).map fun s => ⟨s.toArray⟩ := by
  have e : ys.map (fun x => x.cps.toList) = sortS l := by
    refine List.Perm.eq_of_pairwise (le := leS) (fun a b _ _ h1 h2 => lt_total a b h2 h1) ?_ (sort_sorted l) ?_
    · rw [List.pairwise_map]
      exact hs
    · have q := hp.map (fun x : Str => x.cps.toList)
      rw [List.map_map] at q
      have e2 : ((fun x : Str => x.cps.toList) ∘ fun s : List Nat => (⟨s.toArray⟩ : Str)) = id := by funext s; simp
      rw [e2, List.map_id] at q
      exact q.trans (sort_perm l).symm
  rw [← e, List.map_map]
  have e3 : ((fun s : List Nat => (⟨s.toArray⟩ : Str)) ∘ fun x : Str => x.cps.toList) = id := by funext s; cases s; simp
  rw [e3, List.map_id]
theorem asStrs_rep {K : Fr} {H : Hp} {al : Al} : ∀ {l : List D} {ss : List (List Nat)} {vs : List V}, asStrs l = some ss → RepVs K H al l vs → vs = (ss.map fun s => (⟨s.toArray⟩ : Str)).map V.str ∧ ∀ s ∈ ss, PyData.strOk ⟨s.toArray⟩ = true
  | [], ss, vs, e, r => by
    simp only [asStrs, Option.some.injEq] at e
    subst e
    simp only [RepVs] at r
    exact ⟨r, by simp⟩
  | d :: l, ss, vs, e, r => by
    cases d <;> simp only [asStrs] at e <;> first | (cases e; done) | skip
    rename_i s
    cases e2 : asStrs l with
    | none => rw [e2] at e; cases e
    | some tt =>
      rw [e2] at e
      simp only [Option.map_some, Option.some.injEq] at e
      subst e
      simp only [RepVs, RepV] at r
      obtain ⟨v, us, rfl, ⟨rfl, ok⟩, r2⟩ := r
      obtain ⟨h1, h2⟩ := asStrs_rep e2 r2
      refine ⟨by rw [h1]; rfl, fun z hz => ?_⟩
      rcases List.mem_cons.mp hz with q | q
      · rw [q]; exact ok
      · exact h2 z q
theorem strs_rep {K : Fr} {H : Hp} {al : Al} : ∀ {ss : List (List Nat)}, (∀ s ∈ ss, PyData.strOk ⟨s.toArray⟩ = true) → RepVs K H al (ss.map D.str) ((ss.map fun s => (⟨s.toArray⟩ : Str)).map V.str)
  | [], _ => RepVs.nil
  | s :: r, h => RepVs.cons (RepV.mkStr (h s List.mem_cons_self)) (strs_rep fun z hz => h z (List.mem_cons_of_mem _ hz))

theorem lt_str (x y : Str) : decide (x.cps.toList < y.cps.toList) = ltStr x.cps.toList y.cps.toList := by
  rw [lt_cps]
  exact lt_meets x y
def sv : Value → Str
  | .str x _ => x
  | _ => ⟨#[]⟩
def ltSv (v u : Value) : Bool := ltStr (sv v).cps.toList (sv u).cps.toList
theorem swo_str : SrtO.Swo ltSv := ⟨fun x y h => lt_asymm _ _ h, fun x y z h1 h2 => le_trans' _ _ _ h1 h2⟩
theorem strs_mem : ∀ {vs : List Value} {ss : List Str}, StrsAre vs ss → ∀ v ∈ vs, ∃ i t, v = Value.str i t
  | _, _, .nil, v, h => absurd h (by simp)
  | _, _, .cons n t r, v, h => by
    rcases List.mem_cons.mp h with e | h
    · exact ⟨n, t, e⟩
    · exact strs_mem r v h
theorem strs_sv : ∀ {vs : List Value}, (∀ v ∈ vs, ∃ i t, v = Value.str i t) → StrsAre vs (vs.map sv)
  | [], _ => .nil
  | v :: vs, h => by
    obtain ⟨i, t, e⟩ := h v List.mem_cons_self
    subst e
    exact .cons i t (strs_sv fun u hu => h u (List.mem_cons_of_mem _ hu))
theorem sv_strs : ∀ {vs : List Value} {ss : List Str}, StrsAre vs ss → vs.map sv = ss
  | _, _, .nil => rfl
  | _, _, .cons n t r => congrArg (n :: ·) (sv_strs r)
section
variable {prog : Program} {w : World} {A : Around} {s : Shared}
theorem str_cmp {vs : List Value} {ss : List Str} (hI : StrsAre vs ss) : SrtO.Cmp prog w A s oneType' (fun p => p.1 ∈ vs) (SrtO.lt2 ltSv) := by
  intro p q hm hm'
  obtain ⟨a, t, e⟩ := strs_mem hI _ hm
  obtain ⟨b, u, e'⟩ := strs_mem hI _ hm'
  show wpAny (model prog w) A (keyLt' oneType' p.1 q.1) (fun r s' => s' = s ∧ r = ltSv p.1 q.1) (fun _ _ => False) s
  rw [e, e', keyLt'_oneType]
  exact oneLt_str ⟨rfl, lt_str a b⟩
theorem strs_sortable {a : Addr} {vs : List Value} {ss : List Str} (hI : StrsAre vs ss) (h2 : 2 ≤ vs.length) : SrtO.SortableO prog w A s a vs ltSv := by
  intro h' _
  refine ⟨oneType', fun Q E hq => ?_, str_cmp hI⟩
  match vs, hI, h2 with
  | v1 :: v2 :: rest, hI, _ =>
    rw [keyKind_strs hI]
    exact wpAny_pure hq
  | [], _, h => exact absurd h (by decide)
  | [v], _, h => exact absurd h (by simp)
end
theorem strs_out {vs out : List Value} {ss : List Str} (hI : StrsAre vs ss) (hs : SrtO.Srtd ltSv out) (hb : SrtO.Stb ltSv out vs) : StrsAre out (out.map sv) ∧ (out.map sv).Perm ss ∧ (out.map sv).Pairwise fun a b => leS a.cps.toList b.cps.toList := by
  refine ⟨strs_sv fun v hv => strs_mem hI v (hb.perm.mem_iff.mp hv), ?_, ?_⟩
  · have q := hb.perm.map sv
    rw [sv_strs hI] at q
    exact q
  · exact List.pairwise_map.mpr (hs.imp fun {x y} h => h)
/-- sorted(xs), texts, any number of them -/
def rSortedSA (K : PySem.W.Frag) : List V → Hp → VK → Prop := fun vs H Q => ∃ (a : Addr) (ss : List Str), vs = [V.ref a] ∧ SqL K H a (ss.map V.str) ∧
  ∀ (ys : List Str) (p : Addr), ys.Perm ss → (ys.Pairwise fun a b => leS a.cps.toList b.cps.toList) → H p = none → Q (.ref p) (upd H p (.lst (ys.map V.str)))
section
variable {X : Cx}
theorem cr_sortedSA : CallR X (.builtin "sorted") (rSortedSA X.K) := by
  intro pins s σ H vs us Q I r h
  obtain ⟨a, ss, rfl, hs, q⟩ := h
  obtain ⟨its, rv, hl, hz⟩ := I.list hs
  rw [Vals.ref1 r]
  have hi := rv.strs
  refine SrtO.sorted_ord swo_str hl.isList (by rw [← rv.length]; exact hz) (fun h2 h₁ a' _ _ => strs_sortable hi h2) fun out h1 h2 => ?_
  obtain ⟨k1, k2, k3⟩ := strs_out hi h1 h2
  obtain ⟨ep, he'⟩ := PyProof.Rows.sortedAll_at s.heap its out.toArray
  have hlen : ((out.map sv).map V.str).length ≤ sizeLine := by
    rw [List.length_map, k2.length_eq]
    rw [List.length_map] at hz
    exact hz
  exact ⟨.ref _, upd H (s.heap.objs.size + 1) (.lst ((out.map sv).map V.str)), I.laid (t' := s.toks) (fun _ _ => PyProof.Rows.sortedAll_old) (Nat.le_succ _) ⟨hlen, out, ep, vals_of_strs k1, he'⟩, rfl, q _ _ k2 k3 (I.hok.fresh (Nat.le_succ _))⟩
theorem call_sorted_D : CallR X (.builtin "sorted") (rCall X.K .sorted) := by
  intro pins s sg H xs us Q I rs h
  obtain ⟨al, M, ds, m, r, hf⟩ := h
  rcases ds with _ | ⟨d, _ | ⟨e, k⟩⟩
  · exact hf.elim
  · simp only [RepVs] at r
    obtain ⟨v, us', rfl, r, rfl⟩ := r
    cases d with
    | lst l =>
      simp only [RepV] at r
      obtain ⟨p, vs, rfl, hp, w⟩ := r
      simp only [biD] at hf
      cases e : asStrs l with
      | none => rw [e] at hf; exact hf.elim
      | some ss =>
        rw [e] at hf
        obtain ⟨rfl, ok⟩ := asStrs_rep e w
        refine cr_sortedSA pins s sg H _ us Q I rs ⟨p, _, rfl, hp.seq, fun ys q hperm hsort hq => ?_⟩
        rw [sort_unique hperm hsort]
        exact fin_lst hf m (strs_rep fun z hz => ok z ((sort_perm ss).mem_iff.mp hz)) hq
    | _ => exact hf.elim
  · cases d <;> exact hf.elim

/-! ### isinstance -/
def tyName : Ty → String
  | .int => "int" | .bool => "bool" | .str => "str" | .tuple => "tuple" | .list => "list" | .dict => "dict"
def rIsD (K : Fr) (t : Ty) : List V → Hp → VK → Prop := fun xs H Q => ∃ al M d x b, xs = [x, .ty (tyName t)] ∧ RepM K H al M ∧ RepV K H al d x ∧ isD d t M = some b ∧ Q (.bl b) H
theorem call_isin_D (t : Ty) : CallR X (.builtin "isinstance") (rIsD X.K t) := by
  intro pins s sg H xs us Q I rs h
  obtain ⟨al, M, d, x, b, rfl, m, r, e, q⟩ := h
  have go : ∀ a : String, TyOf X.K H x (.type a) → PySem.W.kitOne X.K (.type a) (.type (tyName t)) = some b → wpAny (model X.prog X.w) X.A (call (.builtin "isinstance") us) (EP X pins sg Q) X.xe s := fun a ty k => by
    obtain ⟨u1, u2, rfl, r1, r2⟩ := vals2 rs
    cases r2
    exact isinst_ok I r1 ty k fun tk => ⟨.bl b, H, I.tok tk, rfl, q⟩
  cases d with
  | non =>
    simp only [RepV] at r
    subst r
    cases t <;> (simp only [isD, Option.some.injEq] at e; subst e; exact go "NoneType" .non (kit_ty (by decide +kernel)))
  | bl c =>
    simp only [RepV] at r
    subst r
    cases t <;> (simp only [isD, Option.some.injEq] at e; subst e; exact go "bool" (.bl _) (kit_ty (by decide +kernel)))
  | int c =>
    simp only [RepV] at r
    subst r
    cases t <;> (simp only [isD, Option.some.injEq] at e; subst e; exact go "int" (.int _) (kit_ty (by decide +kernel)))
  | str c =>
    simp only [RepV] at r
    obtain ⟨rfl, _⟩ := r
    cases t <;> (simp only [isD, Option.some.injEq] at e; subst e; exact go "str" (.str _) (kit_ty (by decide +kernel)))
  | tup l =>
    simp only [RepV] at r
    obtain ⟨p, vs, rfl, hp, _⟩ := r
    cases t <;> (simp only [isD, Option.some.injEq] at e; subst e; exact go "tuple" (.tup hp) (kit_ty (by decide +kernel)))
  | obj i =>
    simp only [isD] at e
    cases ho : M[i]? with
    | none => rw [ho] at e; cases e
    | some o =>
      rw [ho] at e
      cases o with
      | lst l =>
        obtain ⟨p, vs, rfl, _, hp, _⟩ := listM m r ho
        simp only [Option.some.injEq] at e
        subst e
        cases t <;> exact go "list" (.lst hp) (kit_ty (by decide +kernel))
      | dct tk kv lck =>
        cases lck with
        | true => simp at e
        | false =>
          obtain ⟨p, u, us', rfl, _, _, hr, di, _⟩ := dictM m r ho
          simp only [Option.some.injEq] at e
          subst e
          have ty : TyOf X.K H (.ref p) (.type "dict") := by
            cases tk with
            | false => obtain ⟨kvs, rfl, _⟩ := di; exact .dK (hr rfl)
            | true => obtain ⟨kvs, rfl, _⟩ := di; exact .dT (hr rfl)
          cases t <;> exact go "dict" ty (kit_ty (by decide +kernel))
  | lst _ => simp [isD] at e
  | dct _ _ _ => simp [isD] at e
  | opq => simp [isD] at e

/-! ### methods of lists -/
def rMe (K : Fr) (e : Me) : V → List V → Hp → VK → Prop := fun x xs H Q => ∃ al M i ds, RepM K H al M ∧ RepV K H al (.obj i) x ∧ RepVs K H al ds xs ∧ FinE K H al (meD e (.obj i) ds M) Q
/-- one of ours is changed: the end -/
theorem fin_mut {K : Fr} {H : Hp} {al : Al} {M : Mem} {i : Nat} {p : Addr} {d : D} {v : V} {l : List D} {vs us : List V} {Q : VK} (h : FinE K H al (.ok d (M.set i (.lst l))) Q) (m : RepM K H al M) (hi : al.objs[i]? = some p) (hp : H p = some (.lst us)) (r : RepVs K H al l vs) (rd : RepV K H al d v) :
    Q v (upd H p (.lst vs)) := by
  have hm : p ∈ al.objs := List.mem_of_getElem? hi
  have x : Ext H al (upd H p (.lst vs)) al := ext_mut m hm hp (NoT.lst _)
  exact h al v _ x (m.mut hi hp (NoT.lst _) ⟨vs, upd_same, RepVs.ext x _ _ r⟩) (RepV.ext x _ _ rd)
theorem mt_append_D : MtR X "list.append" (rMe X.K .append) := by
  intro pins s sg H x xs v us Q I rx rs h
  obtain ⟨al, M, i, ds, m, r, w, hf⟩ := h
  simp only [meD] at hf
  cases ho : M[i]? with
  | none => rw [ho] at hf; exact hf.elim
  | some o =>
    rw [ho] at hf
    cases o with
    | dct _ _ _ => exact hf.elim
    | lst l =>
      rcases ds with _ | ⟨d, _ | ⟨e, k⟩⟩
      · exact hf.elim
      · simp only at hf
        split at hf
        · rename_i hz
          simp only [decide_eq_true_eq] at hz
          obtain ⟨p, vs, rfl, hi, hp, rs'⟩ := listM m r ho
          simp only [RepVs] at w
          obtain ⟨y, us', rfl, ry, rfl⟩ := w
          refine mt_append pins s sg H _ _ v us Q I rx rs ⟨p, vs, y, rfl, rfl, hp, ?_, fin_mut hf m hi hp (rs'.append (RepVs.one ry)) RepV.mkNon⟩
          rw [rs'.length, ← line_eq]
          exact hz
        · exact hf.elim
      · exact hf.elim
theorem mt_pop_D : MtR X "list.pop" (rMe X.K .pop) := by
  intro pins s sg H x xs v us Q I rx rs h
  obtain ⟨al, M, i, ds, m, r, w, hf⟩ := h
  simp only [meD] at hf
  cases ho : M[i]? with
  | none => rw [ho] at hf; exact hf.elim
  | some o =>
    rw [ho] at hf
    cases o with
    | dct _ _ _ => exact hf.elim
    | lst l =>
      rcases ds with _ | ⟨d, k⟩
      · simp only at hf
        cases e : l.getLast? with
        | none => rw [e] at hf; exact hf.elim
        | some d =>
          rw [e] at hf
          obtain ⟨p, vs, rfl, hi, hp, rs'⟩ := listM m r ho
          simp only [RepVs] at w
          subst w
          have hl := rs'.length
          rw [List.getLast?_eq_getElem?] at e
          obtain ⟨y, e1, ry⟩ := rs'.get e
          refine mt_pop pins s sg H _ _ v us Q I rx rs ⟨p, vs, y, rfl, rfl, hp, by rw [hl]; exact e1, ?_⟩
          have rd : RepVs X.K H al l.dropLast vs.dropLast := by
            rw [List.dropLast_eq_take, List.dropLast_eq_take, hl]
            exact rs'.take _
          exact fin_mut hf m hi hp rd ry
      · exact hf.elim
end
end MP
set_option Elab.async false
set_option linter.all false
set_option maxRecDepth 100000
set_option autoImplicit false
namespace MP
open PySem PySem.Spec PyProof.Rows L2

/-! ### more is there -/
theorem RepM.more {K : Fr} {H H' : Hp} {al : Al} {M : Mem} (m : RepM K H al M) (k : ∀ b o, H b = some o → H' b = some o) : Ext H al H' al ∧ RepM K H' al M := by
  have x : Ext H al H' al := by
    refine ⟨⟨⟨[], by simp⟩, rfl, fun q u h _ => k q u h, fun q u h z => ?_, fun q vs h => k q _ h, fun q ob u h => k q _ h⟩, fun q hq => ?_⟩
    · rw [k q u h] at z; cases z
    · cases e : H q with
      | none => exact absurd e (m.rs q hq).1
      | some u => exact k q u e
  refine ⟨x, m.len, m.nd, fun i w e => ?_, fun q hq => ⟨fun z => ?_, (m.rs q hq).2⟩⟩
  · obtain ⟨a, h1, h2⟩ := m.at_ i w e
    exact ⟨a, h1, h2.ext0 x.toExt0 fun u hu => k a u hu⟩
  · cases e : H q with
    | none => exact (m.rs q hq).1 e
    | some u => rw [k q u e] at z; cases z

section
variable {X : Cx}
/-! ### xs.extend(a list or a tuple) -/
theorem extend_of (l : Addr) (items : Array Value) (n : Nat) (b : Addr) (items2 : Array Value) (T : String) (hT : T = "list" ∨ T = "tuple") (o : Obj) (ho : o.cls = .type T ∧ ∃ n2, o.data = .seq items2 n2)
    (hs0 : ¬(!items.isEmpty && Builtin.List.listTooLong (items.size + items2.size)) = true) (hs1 : items.size ≤ sizeLine) (hs2 : items.size + items2.size ≤ sizeLine + 1) :
    Meets (Builtin.«list.extend» ⟨[.ref l, .ref b], []⟩) (fun _ R s => s.heap.get? l = some { cls := .type "list", dict := none, data := .seq items n, slots := #[] } ∧ s.heap.get? b = some o ∧ R (.ok (.ret Value.none)) { s with heap := s.heap.update l (Obj.mapSeq fun x => x ++ items2), toks := s.toks }) :=
  .of_wp fun prog w A R s h => by
    obtain ⟨oc, od, odt, osl⟩ := o
    obtain ⟨h1, n2, h2⟩ := ho
    simp only at h1 h2
    subst h1 h2
    obtain ⟨hp, g, d, tk, os⟩ := s; obtain ⟨hl, hb, h⟩ := h; have f1 := AutoSeq1.idx_int; have f2 := AutoSeq1.sub_tuple_tuple; have f3 := AutoSeq1.sub_list_list; have f4 := AutoSeq1.sub_tuple_list; have f5 := AutoSeq1.sub_list_tuple;
    have hz' : (items ++ items2).size ≤ sizeLine + 1 := by rw [Array.size_append]; exact hs2
    rcases hT with rfl | rfl
    · wp_walk using (wpAny_updateSeq hl rfl (hz := hs1) (_hz' := hz')), AutoSeq1.wpAny_loadPart' hl, AutoSeq1.wpAny_loadPart' hb; exact ⟨_, rfl, h⟩
    · wp_walk using (wpAny_updateSeq hl rfl (hz := hs1) (_hz' := hz')), AutoSeq1.wpAny_loadPart' hl, AutoSeq1.wpAny_loadPart' hb; exact ⟨_, rfl, h⟩
theorem mt_extend_seq : MtR X "list.extend" (fun x xs H Q => ∃ l b ls zs, x = .ref l ∧ xs = [.ref b] ∧ H l = some (.lst ls) ∧ (SqL X.K H b zs ∨ SqT X.K H b zs) ∧ ls.length + zs.length ≤ sizeLine ∧ Q .non (upd H l (.lst (ls ++ zs)))) := by
  intro pins s σ H x xs v us Q I rx rs h
  obtain ⟨l, b, ls, zs, rfl, rfl, hl, hb, hz, q⟩ := h
  cases rx
  obtain ⟨u, rfl, ru⟩ : ∃ u, us = [u] ∧ RelV (.ref b) u := by
    cases rs with
    | cons p t => cases t; exact ⟨_, rfl, p⟩
  cases ru
  obtain ⟨its, n, r, ho, hz'⟩ := I.lst hl
  have fin : ∀ (its2 : List Value), Vals zs its2 → ∀ {t : Nat}, EP X pins σ Q Value.none { s with heap := s.heap.update l (Obj.mapSeq fun x => x ++ its2.toArray), toks := s.toks } := fun its2 r2 _ => by
    refine ⟨.non, upd H l (.lst (ls ++ zs)), I.lstUpd hl ho (its' := its ++ its2) (n' := _) (f := Obj.mapSeq fun x => x ++ its2.toArray) (by rw [mapSeq_app]; simp; rfl) (r.append r2) (by rw [List.length_append]; exact hz) s.toks, rfl, q⟩
  have hlen := r.length
  rcases hb with hb | hb
  · obtain ⟨its2, r2, ⟨o2, n2, ho2, hc2, _, hd2⟩, _⟩ := I.list hb
    have hl2 := r2.length
    have hzz : its.toArray.size + its2.toArray.size ≤ sizeLine := by simp only [List.size_toArray]; omega
    exact call_meets PySem.F.slot_list_extend ⟨_, ho, rfl⟩ PySem.F.entry_list_extend (PySem.F.args_list_extend_2 _ _) (extend_of l its.toArray n b its2.toArray "list" (.inl rfl) o2 ⟨hc2, n2, hd2⟩ (extend_door hzz) (by omega) (by omega)) ⟨ho, ho2, fin its2 r2 (t := 0)⟩
  · obtain ⟨its2, r2, ⟨o2, ho2, hc2, hd2⟩, _⟩ := I.tuple hb
    have hl2 := r2.length
    have hzz : its.toArray.size + its2.toArray.size ≤ sizeLine := by simp only [List.size_toArray]; omega
    exact call_meets PySem.F.slot_list_extend ⟨_, ho, rfl⟩ PySem.F.entry_list_extend (PySem.F.args_list_extend_2 _ _) (extend_of l its.toArray n b its2.toArray "tuple" (.inr rfl) o2 ⟨hc2, hd2⟩ (extend_door hzz) (by omega) (by omega)) ⟨ho, ho2, fin its2 r2 (t := 0)⟩
theorem mt_extend_D : MtR X "list.extend" (rMe X.K .extend) := by
  intro pins s sg H x xs v us Q I rx rs h
  obtain ⟨al, M, i, ds, m, r, w, hf⟩ := h
  simp only [meD] at hf
  cases ho : M[i]? with
  | none => rw [ho] at hf; exact hf.elim
  | some o =>
    rw [ho] at hf
    cases o with
    | dct _ _ _ => exact hf.elim
    | lst l =>
      rcases ds with _ | ⟨d, _ | ⟨e, k⟩⟩
      · exact hf.elim
      · simp only [RepVs] at w
        obtain ⟨y, us', rfl, ry, rfl⟩ := w
        obtain ⟨p, vs, rfl, hi, hp, rs'⟩ := listM m r ho
        cases d with
        | lst k =>
          simp only at hf
          split at hf
          · rename_i hz
            simp only [decide_eq_true_eq] at hz
            simp only [RepV] at ry
            obtain ⟨b, zs, rfl, hb, rz⟩ := ry
            refine mt_extend_seq pins s sg H _ _ v us Q I rx rs ⟨p, b, vs, zs, rfl, rfl, hp, .inl hb.seq, ?_, fin_mut hf m hi hp (rs'.append rz) RepV.mkNon⟩
            rw [rs'.length, rz.length, ← line_eq]
            exact hz
          · exact hf.elim
        | tup k =>
          simp only at hf
          split at hf
          · rename_i hz
            simp only [decide_eq_true_eq] at hz
            simp only [RepV] at ry
            obtain ⟨b, zs, rfl, hb, rz⟩ := ry
            refine mt_extend_seq pins s sg H _ _ v us Q I rx rs ⟨p, b, vs, zs, rfl, rfl, hp, .inr (.inl (.inl hb)), ?_, fin_mut hf m hi hp (rs'.append rz) RepV.mkNon⟩
            rw [rs'.length, rz.length, ← line_eq]
            exact hz
          · exact hf.elim
        | _ => exact hf.elim
      · cases d <;> exact hf.elim
end
end MP
set_option Elab.async false
set_option linter.all false
set_option maxRecDepth 100000
set_option autoImplicit false
namespace MP
open PySem PySem.Spec PyProof.Rows L2

/-! ### o[k] = d -/
theorem any_val {κ : Type} [DecidableEq κ] (g : κ → D) (hg : ∀ a b, keyEq (g a) (g b) = decide (a = b)) (k : κ) : ∀ (kv : List (D × D)) (kvs : List (κ × V)),
    kvs.map (fun q => g q.1) = kv.map (·.1) → kv.any (fun p => keyEq p.1 (g k)) = kvs.any (fun p => decide (p.1 = k))
  | [], [], _ => rfl
  | [], _ :: _, h => by simp at h
  | _ :: _, [], h => by simp at h
  | (a, d) :: kv, (b, v) :: kvs, h => by
    simp only [List.map_cons, List.cons.injEq] at h
    rw [List.any_cons, List.any_cons, any_val g hg k kv kvs h.2, ← h.1, hg]
theorem map_val {κ : Type} [DecidableEq κ] {K : Fr} {H : Hp} {al : Al} (g : κ → D) (hg : ∀ a b, keyEq (g a) (g b) = decide (a = b)) (k : κ) (d : D) (v : V) (rv : RepV K H al d v) : ∀ (kv : List (D × D)) (kvs : List (κ × V)),
    kvs.map (fun q => g q.1) = kv.map (·.1) → RepVs K H al (kv.map (·.2)) (kvs.map (·.2)) →
    ((kvs.map (fun q => if q.1 = k then (q.1, v) else q)).map (fun q => g q.1) = (kv.map (fun p => if keyEq p.1 (g k) then (p.1, d) else p)).map (·.1)) ∧
      RepVs K H al ((kv.map (fun p => if keyEq p.1 (g k) then (p.1, d) else p)).map (·.2)) ((kvs.map (fun q => if q.1 = k then (q.1, v) else q)).map (·.2))
  | [], [], _, _ => ⟨rfl, RepVs.nil⟩
  | [], _ :: _, h, _ => by simp at h
  | _ :: _, [], h, _ => by simp at h
  | (a, c) :: kv, (b, w) :: kvs, h, r => by
    simp only [List.map_cons, List.cons.injEq] at h
    simp only [List.map_cons, RepVs] at r
    obtain ⟨w', us, e, r1, r2⟩ := r
    simp only [List.cons.injEq] at e
    obtain ⟨rfl, rfl⟩ := e
    obtain ⟨i1, i2⟩ := map_val g hg k d v rv kv kvs h.2 r2
    have hk : keyEq a (g k) = decide (b = k) := by rw [← h.1]; exact hg b k
    simp only [List.map_cons, hk, decide_eq_true_eq]
    by_cases hb : b = k
    · rw [if_pos hb, if_pos hb]
      exact ⟨by rw [i1]; exact congrArg (· :: _) h.1, RepVs.cons rv i2⟩
    · rw [if_neg hb, if_neg hb]
      exact ⟨by rw [i1]; exact congrArg (· :: _) h.1, RepVs.cons r1 i2⟩
theorem putK_val {κ : Type} [DecidableEq κ] {K : Fr} {H : Hp} {al : Al} (g : κ → D) (hg : ∀ a b, keyEq (g a) (g b) = decide (a = b)) (k : κ) (d : D) (v : V) (rv : RepV K H al d v) (kv : List (D × D)) (kvs : List (κ × V))
    (h : kvs.map (fun q => g q.1) = kv.map (·.1)) (r : RepVs K H al (kv.map (·.2)) (kvs.map (·.2))) :
    (L2.putK kvs k v).map (fun q => g q.1) = (MP.putK (g k) d kv).map (·.1) ∧ RepVs K H al ((MP.putK (g k) d kv).map (·.2)) ((L2.putK kvs k v).map (·.2)) := by
  have ha := any_val g hg k kv kvs h
  unfold L2.putK MP.putK
  rw [ha]
  by_cases hx : (kvs.any fun p => decide (p.1 = k)) = true
  · rw [if_pos hx, if_pos hx]
    exact map_val g hg k d v rv kv kvs h r
  · rw [if_neg hx, if_neg hx]
    refine ⟨by simp [h], ?_⟩
    rw [List.map_append, List.map_append]
    exact r.append (RepVs.one rv)
theorem putK_keys {κ : Type} [DecidableEq κ] {k : κ} {v : V} {kvs : List (κ × V)} {P : κ → Prop} (hk : P k) (h : ∀ q ∈ kvs, P q.1) : ∀ q ∈ L2.putK kvs k v, P q.1 := by
  intro q hq
  unfold L2.putK at hq
  split at hq
  · obtain ⟨p, hp, rfl⟩ := List.mem_map.mp hq
    split <;> exact h p hp
  · rcases List.mem_append.mp hq with hq | hq
    · exact h q hq
    · rw [List.mem_singleton.mp hq]; exact hk
/-- a dict of ours takes a value at a key -/
theorem dput_of {K : Fr} {H : Hp} {al : Al} {a : Addr} {u : HO} {tk : Bool} {kv : List (D × D)} {us : List V} {k d : D} {y v : V} (hu : H a = some u) (di : DictIs tk u (kv.map (·.1)) us) (rs : RepVs K H al (kv.map (·.2)) us)
    (ik : isKey k = true) (it : (isTupKey k == tk) = true) (ry : RepV K H al k y) (rv : RepV K H al d v) (hl : kv.length < line) :
    ∃ u' us', DPut H a y v (upd H a u') ∧ DictIs tk u' ((putK k d kv).map (·.1)) us' ∧ RepVs K H al ((putK k d kv).map (·.2)) us' := by
  cases tk with
  | false =>
    obtain ⟨kvs, rfl, e1, e2, e3⟩ := di
    subst e2
    have fk : flat k = true := by
      cases k <;> first | rfl | (simp [isKey] at ik; done) | (simp [isTupKey] at it)
    obtain ⟨kk, rfl, rfl, ok⟩ := kD_of fk ry
    obtain ⟨p1, p2⟩ := putK_val kD keyEq_kD kk d v rv kv kvs e1 rs
    have hlen : kvs.length = kv.length := by simpa using congrArg List.length e1
    exact ⟨_, _, DPut.k hu (by rw [hlen, ← line_eq]; exact hl), ⟨_, rfl, p1, rfl, putK_keys ok e3⟩, p2⟩
  | true =>
    obtain ⟨kvs, rfl, e1, e2, e3⟩ := di
    subst e2
    cases k with
    | tup l =>
      simp only [isKey] at ik
      simp only [RepV] at ry
      obtain ⟨p, vs, rfl, hp, rv'⟩ := ry
      obtain ⟨ks, rfl, rfl, ok⟩ := kDs_of ik rv'
      obtain ⟨p1, p2⟩ := putK_val tD keyEq_tD ks d v rv kv kvs e1 rs
      have hlen : kvs.length = kv.length := by simpa using congrArg List.length e1
      exact ⟨_, _, DPut.t hu hp (by rw [hlen, ← line_eq]; exact hl), ⟨_, rfl, p1, rfl, putK_keys (P := fun ks => ∀ k ∈ ks, keyOk k) ok e3⟩, p2⟩
    | _ => simp [isTupKey] at it

def FinU (K : Fr) (H : Hp) (al : Al) (r : Option Mem) (Q : Hp → Prop) : Prop :=
  match r with
  | some M => ∀ al1 H1, Ext H al H1 al1 → RepM K H1 al1 M → Q H1
  | none => False
def tSetD (K : Fr) : TSet := fun o i v H Q => ∃ al M od kd dd, RepM K H al M ∧ RepV K H al od o ∧ RepV K H al kd i ∧ RepV K H al dd v ∧ FinU K H al (setixD od kd dd M) Q
section
variable {X : Cx}
theorem set_D (hu : X.A.units + 1 < cLine) : PSet X (tSetD X.K) := by
  intro pins s sg H o i v ov iv u Q I ro ri rv h
  obtain ⟨al, M, od, kd, dd, m, r1, r2, r3, hf⟩ := h
  cases od with
  | obj j =>
    simp only [setixD] at hf
    cases ho : M[j]? with
    | none => rw [ho] at hf; exact hf.elim
    | some ob =>
      rw [ho] at hf
      cases ob with
      | lst l =>
        cases kd with
        | int n =>
          simp only at hf
          split at hf
          · rename_i hz
            simp only [decide_eq_true_eq] at hz
            obtain ⟨p, vs, rfl, hi, hp, rs'⟩ := listM m r1 ho
            simp only [RepV] at r2
            subst r2
            have hl := rs'.length
            have hm : p ∈ al.objs := List.mem_of_getElem? hi
            have hix : ixN vs.length n = some n.toNat := by
              have h2 : n < (vs.length : Int) := by rw [hl]; omega
              unfold ixN
              simp [hz.1, h2]
            refine set_list pins s sg H _ _ v ov iv u Q I ro ri rv ⟨p, vs, n, n.toNat, rfl, rfl, hp, hix, ?_⟩
            have x : Ext H al (upd H p (.lst (vs.set n.toNat v))) al := ext_mut m hm hp (NoT.lst _)
            exact hf al _ x (m.mut hi hp (NoT.lst _) ⟨_, upd_same, RepVs.ext x _ _ (rs'.set r3 _)⟩)
          · exact hf.elim
        | _ => exact hf.elim
      | dct tk kv lck =>
        cases lck with
        | true => exact hf.elim
        | false =>
          simp only at hf
          split at hf
          · rename_i hz
            simp only [Bool.and_eq_true, decide_eq_true_eq] at hz
            obtain ⟨⟨ik, it⟩, hl⟩ := hz
            obtain ⟨p, w, us', rfl, hi, _, hr, di, rs'⟩ := dictM m r1 ho
            have hm : p ∈ al.objs := List.mem_of_getElem? hi
            obtain ⟨u', us2, dp, di', rs2⟩ := dput_of (hr rfl) di rs' ik it r2 r3 hl
            refine set_dict hu pins s sg H _ _ v ov iv u Q I ro ri rv ⟨p, _, rfl, dp, ?_⟩
            have x : Ext H al (upd H p u') al := ext_mut m hm (hr rfl) di.not
            refine hf al _ x (m.mut hi (hr rfl) di.not ⟨u', us2, ?_, di', RepVs.ext x _ _ rs2⟩)
            rw [if_neg Bool.false_ne_true]
            exact upd_same
          · exact hf.elim
  | _ => exact hf.elim

/-! ### list(e.items()) -/
theorem pairs_rep {K : Fr} {H' : Hp} {al : Al} : ∀ {ts : List Addr} {kvs : List (Key × V)} {kv : List (D × D)}, Paired (fun (t : Addr) (q : Key × V) => H' t = some (.tup [kV q.1, q.2])) ts kvs →
    kvs.map (fun q => kD q.1) = kv.map (·.1) → (∀ q ∈ kvs, keyOk q.1) → RepVs K H' al (kv.map (·.2)) (kvs.map (·.2)) → RepVs K H' al (pairsOf kv) (ts.map V.ref)
  | _, _, [], .nil, _, _, _ => RepVs.nil
  | _, _, _ :: _, .nil, h, _, _ => by simp at h
  | _, _, [], .cons _ _, h, _, _ => by simp at h
  | t :: ts, q :: kvs, (a, d) :: kv, .cons h1 h2, e, ok, r => by
    simp only [List.map_cons, List.cons.injEq] at e
    simp only [List.map_cons, RepVs] at r
    obtain ⟨v, us, e3, r1, r2⟩ := r
    simp only [List.cons.injEq] at e3
    obtain ⟨rfl, rfl⟩ := e3
    show RepVs K H' al (.tup [a, d] :: pairsOf kv) (V.ref t :: ts.map V.ref)
    refine RepVs.cons ?_ (pairs_rep h2 e.2 (fun q hq => ok q (List.mem_cons_of_mem _ hq)) r2)
    simp only [RepV]
    refine ⟨t, _, rfl, h1, RepVs.cons ?_ (RepVs.one r1)⟩
    rw [← e.1]
    exact kD_kV (ok q List.mem_cons_self)
theorem items_D {K : Fr} {H : Hp} {al : Al} {M : Mem} {d : D} {x : V} {Q : VK} (m : RepM K H al M) (r : RepV K H al d x) (hf : FinE K H al (biD .items [d] M) Q) : LiI.rItemsL x H Q := by
  cases d with
  | obj i =>
    simp only [biD] at hf
    cases ho : M[i]? with
    | none => rw [ho] at hf; exact hf.elim
    | some o =>
      rw [ho] at hf
      cases o with
      | lst l => exact hf.elim
      | dct tk kv lck =>
        cases tk <;> cases lck <;> first | exact hf.elim | skip
        obtain ⟨p, u, us, rfl, _, _, hr, di, rs⟩ := dictM m r ho
        obtain ⟨kvs, rfl, e1, e2, ok⟩ := di
        subst e2
        refine ⟨p, kvs, rfl, hr rfl, fun H' b ts hk hb hts hnb hbl hp => ?_⟩
        obtain ⟨x', m'⟩ := m.more hk
        refine hf al _ H' x' m' ?_
        simp only [RepV]
        exact ⟨b, _, rfl, .inl ⟨.inl hbl, m.fresh hb⟩, pairs_rep hp e1 ok (RepVs.ext x' _ _ rs)⟩
  | _ => exact hf.elim

/-! ### repr(a) == repr(b), repr(a) == '()' -/
theorem tuple_text (t : Str) (ts : List Str) : 3 ≤ (tupleText (t :: ts)).length := by
  unfold tupleText
  rw [strLen_append, strLen_append]
  have e1 : (("(" : String) : Str).length = 1 := rfl
  cases ts with
  | nil =>
    have e2 : ((if [t].length == 1 then ",)" else ")" : String) : Str).length = 2 := rfl
    omega
  | cons u r =>
    have h := join_length_add (t :: u :: r) (by simp)
    have e2 : ((if (t :: u :: r).length == 1 then ",)" else ")" : String) : Str).length = 1 := by
      rw [if_neg (by simp)]; rfl
    have h3 : 4 ≤ piled (t :: u :: r) := by
      simp only [piled, List.map_cons, List.sum_cons]
      omega
    omega
theorem shown_nil : ∀ (d : D) (n : Bool) (M M' : Mem) (c : Bool), reprNilD n d M = .ok (.bl c) M' → (decide ((toPy d).shown = (("()" : String) : Str))) = (c != n)
  | .non, n, M, M', c, h => by
    simp only [reprNilD] at h
    split at h
    · cases h
      have : ¬ ((toPy D.non).shown = (("()" : String) : Str)) := by decide +kernel
      simp [this]
    · cases h
  | .bl b, n, M, M', c, h => by
    simp only [reprNilD] at h
    split at h
    · cases h
      have : ¬ ((toPy (D.bl b)).shown = (("()" : String) : Str)) := by cases b <;> decide +kernel
      simp [this]
    · cases h
  | .int i, n, M, M', c, h => by
    simp only [reprNilD] at h
    split at h
    · split at h
      · cases h
      · rename_i hi
        cases h
        have : ¬ ((toPy (D.int i)).shown = (("()" : String) : Str)) := by
          simp only [toPy, PyData.shown]
          rw [intText_eq]
          intro z
          have z2 := congrArg (fun x : Str => x.cps.toList) z
          simp only at z2
          apply hi
          rw [show intText i = [40, 41] from z2.trans (by decide +kernel)]
          rfl
        simp [this]
    · cases h
  | .str s, n, M, M', c, h => by
    simp only [reprNilD] at h
    split at h <;> cases h
  | .lst l, n, M, M', c, h => by
    simp only [reprNilD] at h
    split at h <;> cases h
  | .tup [], n, M, M', c, h => by
    simp only [reprNilD] at h
    split at h
    · cases h
      have : (toPy (D.tup [])).shown = (("()" : String) : Str) := by decide +kernel
      rw [decide_eq_true this]
      cases n <;> rfl
    · cases h
  | .tup (e :: l), n, M, M', c, h => by
    simp only [reprNilD] at h
    split at h
    · cases h
      have : ¬ ((toPy (D.tup (e :: l))).shown = (("()" : String) : Str)) := by
        simp only [toPy, toPys, PyData.shown, PyData.shownAll]
        intro z
        have q := tuple_text (toPy e).shown (PyData.shownAll (toPys l))
        rw [z] at q
        exact absurd q (by decide)
      simp [this]
    · cases h
  | .dct _ _ _, n, M, M', c, h => by simp [reprNilD, showOk, D.pure] at h
  | .obj _, n, M, M', c, h => by simp [reprNilD, showOk, D.pure] at h
  | .opq, n, M, M', c, h => by simp [reprNilD, showOk, D.pure] at h
theorem reprNil_bl : ∀ (d : D) (n : Bool) (M M' : Mem) (c : D), reprNilD n d M = .ok c M' → M' = M ∧ ∃ b, c = .bl b := by
  intro d n M M' c h
  unfold reprNilD at h
  split at h
  · split at h <;> first | (cases h; exact ⟨rfl, _, rfl⟩) | (split at h <;> first | (cases h; exact ⟨rfl, _, rfl⟩) | cases h) | cases h
  · cases h
end
end MP
set_option Elab.async false
set_option linter.all false
set_option maxRecDepth 100000
set_option autoImplicit false
namespace MP
open PySem PySem.Spec PyProof.Rows L2

mutual
theorem RepV.swap {K : Fr} {H : Hp} {al al' : Al} (hm : ∀ p, p ∈ al' → p ∈ al) (ho : ∀ (i : Nat) a, al.objs[i]? = some a → al'.objs[i]? = some a) : ∀ (d : D) (v : V), RepV K H al d v → RepV K H al' d v
  | .non, v, h => by simpa only [RepV] using h
  | .bl b, v, h => by simpa only [RepV] using h
  | .int i, v, h => by simpa only [RepV] using h
  | .str s, v, h => by simpa only [RepV] using h
  | .tup l, v, h => by
    simp only [RepV] at h ⊢
    obtain ⟨p, vs, e, h1, h2⟩ := h
    exact ⟨p, vs, e, h1, RepVs.swap hm ho l vs h2⟩
  | .lst l, v, h => by
    simp only [RepV] at h ⊢
    obtain ⟨p, vs, e, h1, h2⟩ := h
    refine ⟨p, vs, e, ?_, RepVs.swap hm ho l vs h2⟩
    rcases h1 with ⟨h1, hn⟩ | h1
    · exact .inl ⟨h1, fun z => hn (hm p z)⟩
    · exact .inr h1
  | .dct tk ks l, v, h => by
    simp only [RepV] at h ⊢
    obtain ⟨p, u, us, e, hn, h1, h2, h3⟩ := h
    exact ⟨p, u, us, e, fun z => hn (hm p z), h1, h2, RepVs.swap hm ho l us h3⟩
  | .obj i, v, h => by
    simp only [RepV] at h ⊢
    obtain ⟨a, h1, h2⟩ := h
    exact ⟨a, ho i a h1, h2⟩
  | .opq, _, _ => by simp only [RepV]
theorem RepVs.swap {K : Fr} {H : Hp} {al al' : Al} (hm : ∀ p, p ∈ al' → p ∈ al) (ho : ∀ (i : Nat) a, al.objs[i]? = some a → al'.objs[i]? = some a) : ∀ (d : List D) (v : List V), RepVs K H al d v → RepVs K H al' d v
  | [], vs, h => by simpa only [RepVs] using h
  | d :: r, vs, h => by
    simp only [RepVs] at h ⊢
    obtain ⟨v, us, e, h1, h2⟩ := h
    exact ⟨v, us, e, RepV.swap hm ho d v h1, RepVs.swap hm ho r us h2⟩
end
theorem RepO.swap {K : Fr} {H : Hp} {al al' : Al} (hm : ∀ p, p ∈ al' → p ∈ al) (ho : ∀ (i : Nat) a, al.objs[i]? = Option.some a → al'.objs[i]? = Option.some a) {w : MO} {a : Addr} (h : RepO K H al w a) : RepO K H al' w a := by
  cases w with
  | lst ds =>
    obtain ⟨vs, h1, h2⟩ := h
    exact ⟨vs, h1, RepVs.swap hm ho _ _ h2⟩
  | dct tk kv lck =>
    obtain ⟨u, us, h1, h2, h3⟩ := h
    exact ⟨u, us, h1, h2, RepVs.swap hm ho _ _ h3⟩
theorem reg_mem {al : Al} {G : Addr} : ∀ p, p ∈ al.reg G → p ∈ al.take G := by
  rintro p (h | h)
  · rcases List.mem_append.mp (show p ∈ al.objs ++ [G] from h) with h | h
    · exact .inl h
    · exact .inr (List.mem_cons.mpr (.inl (List.mem_singleton.mp h)))
  · exact .inr (List.mem_cons_of_mem _ h)
theorem reg_at {al : Al} {G : Addr} : ∀ (i : Nat) a, (al.take G).objs[i]? = some a → (al.reg G).objs[i]? = some a := fun i a h => by
  have h' : al.objs[i]? = some a := h
  show (al.objs ++ [G])[i]? = some a
  rw [List.getElem?_append_left (List.getElem?_eq_some_iff.mp h').1]
  exact h'
theorem RepM.regd {K : Fr} {H : Hp} {al : Al} {M : Mem} {G : Addr} {w : MO} (m : RepM K H (al.take G) M) (hr : G ∉ al.res) (h : RepO K H (al.reg G) w G) : RepM K H (al.reg G) (M ++ [w]) := by
  have hl : al.objs.length = M.length := m.len
  have hG := m.rs G List.mem_cons_self
  have hn : G ∉ al.objs := hG.2
  refine ⟨by simp [hl, Al.reg], ?_, fun i z e => ?_, fun q hq => ?_⟩
  · show (al.objs ++ [G]).Nodup
    rw [List.nodup_append]
    refine ⟨m.nd, by simp, fun a ha b hb => ?_⟩
    rw [List.mem_singleton.mp hb]
    rintro rfl
    exact hn ha
  · by_cases hi : i < M.length
    · rw [List.getElem?_append_left hi] at e
      obtain ⟨a, h1, h2⟩ := m.at_ i z e
      exact ⟨a, reg_at i a h1, h2.swap reg_mem reg_at⟩
    · rw [List.getElem?_append_right (by omega)] at e
      have hz : i - M.length = 0 := by
        have := (List.getElem?_eq_some_iff.mp e).1
        simp at this
        omega
      rw [hz] at e
      simp at e
      subst e
      refine ⟨G, ?_, h⟩
      show (al.objs ++ [G])[i]? = _
      rw [List.getElem?_append_right (by rw [hl]; omega), hl, hz]
      rfl
  · have hq' : q ∈ al.res := hq
    obtain ⟨h1, h2⟩ := m.rs q (List.mem_cons_of_mem _ hq')
    refine ⟨h1, fun z => ?_⟩
    rcases List.mem_append.mp (show q ∈ al.objs ++ [G] from z) with z | z
    · exact h2 z
    · exact hr (by rw [← List.mem_singleton.mp z]; exact hq')
/-- from the entry to the end of a making: what was made is ours -/
theorem ext_made_reg {H H1 : Hp} {al al1 : Al} {G : Addr} {o : HO} (hp : H G = none) (hr : G ∉ al) (x : Ext0 (upd H G o) (al.take G) H1 (al1.take G)) (k : ∀ q ∈ al.res, H1 q = H q) : Ext H al H1 (al1.reg G) := by
  obtain ⟨e1, e2⟩ := ext_made hp hr x k
  have hres : al1.res = al.res := by
    have := x.res
    simp only [Al.take, List.cons.injEq, true_and] at this
    exact this
  obtain ⟨be, e, hb⟩ := e1.more
  refine ⟨⟨⟨be ++ [G], ?_, fun q hq => ?_⟩, hres, e1.out, e1.live, e1.tup, e1.frz⟩, e1.kept⟩
  · show al1.objs ++ [G] = al.objs ++ (be ++ [G])
    rw [show al1.objs = al.objs ++ be from e, List.append_assoc]
  · rcases List.mem_append.mp hq with hq | hq
    · exact hb q hq
    · rw [List.mem_singleton.mp hq]; exact hp
end MP
set_option Elab.async false
set_option linter.all false
set_option maxRecDepth 100000
set_option autoImplicit false
namespace MP
open PySem PySem.Spec PyProof.Rows L2

abbrev SE (X : Cx) (cf : CF) (e : Expr) (x : Ex) : Prop := PE X e (tEv X.K fun r M => ev cf x r M)
abbrev SA (X : Cx) (cf : CF) (es : List Expr) (xs : List Ex) : Prop := PA X es (tEa X.K fun r M => evs cf xs r M)
abbrev ST (X : Cx) (cf : CF) (e : Expr) (x : Ex) : Prop := PT X e (tEt X.K fun r M => testOf (ev cf x r M))
abbrev SW (X : Cx) (cf : CF) (e : Expr) (x : Ex) : Prop := PW X e (tEt X.K fun r M => testOf (ev cf x r M))

/-! ### readings in a row -/
theorem fe_ok {K : Fr} {H : Hp} {al : Al} {r : R D} {Q : VK} (h : FinE K H al r Q) : ∃ d M, r = .ok d M := by
  cases r with
  | ok d M => exact ⟨d, M, rfl⟩
  | stop => exact h.elim
theorem ft_ok {K : Fr} {H : Hp} {al : Al} {r : R Bool} {Q : Bool → Hp → Prop} (h : FinT K H al r Q) : ∃ d M, r = .ok d M := by
  cases r with
  | ok d M => exact ⟨d, M, rfl⟩
  | stop => exact h.elim
theorem fa_ok {K : Fr} {H : Hp} {al : Al} {r : R (List D)} {Q : List V → Hp → Prop} (h : FinA K H al r Q) : ∃ d M, r = .ok d M := by
  cases r with
  | ok d M => exact ⟨d, M, rfl⟩
  | stop => exact h.elim
theorem FinE.mono {K : Fr} {H : Hp} {al : Al} {r : R D} {Q Q' : VK} (h : FinE K H al r Q) (f : ∀ v H, Q v H → Q' v H) : FinE K H al r Q' := by
  cases r with
  | ok d M => exact fun al1 v H1 x m r => f v H1 (h al1 v H1 x m r)
  | stop => exact h

/-- the values of a row stay as the heap grows -/
theorem tEa_nil {K : Fr} {cf : CF} {sg : L2.St} {H : Hp} {Q : List V → Hp → Prop} (h : tEa K (fun r M => evs cf [] r M) sg H Q) : tNil sg H Q := by
  obtain ⟨al, r, M, m, l, hf⟩ := h
  exact hf al [] H (Ext.refl _ _) m RepVs.nil
theorem tEa_cons {K : Fr} {cf : CF} {x : Ex} {xs : List Ex} {sg : L2.St} {H : Hp} {Q : List V → Hp → Prop} (h : tEa K (fun r M => evs cf (x :: xs) r M) sg H Q) :
    tCons (tEv K fun r M => ev cf x r M) (tEa K fun r M => evs cf xs r M) sg H Q := by
  obtain ⟨al, r, M, m, l, hf⟩ := h
  simp only [evs] at hf
  cases e : ev cf x r M with
  | stop => rw [e] at hf; exact hf.elim
  | ok d M1 =>
    rw [e] at hf
    simp only at hf
    cases e2 : evs cf xs r M1 with
    | stop => rw [e2] at hf; exact hf.elim
    | ok ds M2 =>
      rw [e2] at hf
      refine tEv_ok m l e fun al1 v H1 x1 m1 l1 r1 => tEa_ok m1 l1 e2 fun al2 vs H2 x2 m2 l2 r2 => ?_
      exact hf al2 _ H2 (x1.trans x2) m2 (RepVs.cons (RepV.ext x2 _ _ r1) r2)
section
variable {X : Cx} {cf : CF} {e a b c : Expr} {es : List Expr} {x y z : Ex} {xs : List Ex} {pos p p1 p2 p3 : Pos}
theorem sa_nil : SA X cf [] [] := pa_nil.imp fun _ _ _ h => tEa_nil h
theorem sa_cons (ha : SE X cf e x) (hr : SA X cf es xs) (hs : starEach (e :: es) X.env = (false, eval e X.env) :: starEach es X.env := by rfl) : SA X cf (e :: es) (x :: xs) :=
  (pa_cons ha hr hs).imp fun _ _ _ h => tEa_cons h

/-! ### names, constants -/
theorem se_v (i : Nat) {n : Str} (hN : X.N[i]? = some n := by rfl) (hv : Vis X.env.scope n := by first | exact Or.inl rfl | exact Or.inr (Or.inl rfl) | exact Or.inr (Or.inr rfl)) (hd : (n == ("__debug__" : Str)) = false := by decide)
    (hcd : (n == ("__classdict__" : Str)) = false := by decide) : SE X cf (.Name n pos) (.v i) := by
  refine (pe_var hN hv hd hcd).imp fun sg H Q h => ?_
  obtain ⟨al, r, M, m, l, hf⟩ := h
  simp only [ev] at hf
  cases e : r[i]? with
  | none => rw [e] at hf; exact hf.elim
  | some o =>
    cases o with
    | none => rw [e] at hf; exact hf.elim
    | some d =>
      rw [e] at hf
      obtain ⟨v, h1, h2⟩ := l.2 i d e
      exact ⟨v, h1, fin_of hf m h2⟩
theorem se_int {i : Int} {j : Nat} : SE X cf (.Constant (.int i) j pos) (.k (.int i)) := pe_int.imp fun sg H Q ⟨al, r, M, m, l, hf⟩ => fin_of hf m (RepV.mkInt i)
theorem se_bl {i : Bool} {j : Nat} : SE X cf (.Constant (.bool i) j pos) (.k (.bl i)) := pe_bl.imp fun sg H Q ⟨al, r, M, m, l, hf⟩ => fin_of hf m (RepV.mkBl i)
theorem se_non {j : Nat} : SE X cf (.Constant .none j pos) (.k .non) := pe_non.imp fun sg H Q ⟨al, r, M, m, l, hf⟩ => fin_of hf m RepV.mkNon
theorem se_str {s : List Nat} {t : Str} {j : Nat} (h : (⟨s.toArray⟩ : Str) = t := by decide +kernel) (hk : PyData.strOk ⟨s.toArray⟩ = true := by decide +kernel) : SE X cf (.Constant (.str t) j pos) (.k (.str s)) :=
  pe_str.imp fun sg H Q ⟨al, r, M, m, l, hf⟩ => by
    rw [← h]
    exact fin_of hf m (RepV.mkStr hk)

/-! ### displays -/
theorem se_tup {k : Nat} (h : SA X cf es xs) : SE X cf (.Tuple es k pos) (.tup xs) := by
  refine (pe_tup h).imp fun sg H Q q => ?_
  obtain ⟨al, r, M, m, l, hf⟩ := q
  simp only [ev] at hf
  cases e : evs cf xs r M with
  | stop => rw [e] at hf; exact hf.elim
  | ok ds M1 =>
    rw [e] at hf
    simp only at hf
    split at hf
    · rename_i hz
      refine tEa_ok m l e fun al1 vs H1 x1 m1 l1 r1 => ⟨?_, fun q hq => fin_tup (hf.ext x1) m1 r1 hq⟩
      rw [r1.length, ← line_eq]
      exact of_decide_eq_true hz
    · exact hf.elim
theorem se_lst (h : SA X cf es xs) : SE X cf (.List es pos) (.lst false xs) := by
  refine (pe_lst h).imp fun sg H Q q => ?_
  obtain ⟨al, r, M, m, l, hf⟩ := q
  simp only [ev] at hf
  cases e : evs cf xs r M with
  | stop => rw [e] at hf; exact hf.elim
  | ok ds M1 =>
    rw [e] at hf
    simp only at hf
    split at hf
    · rename_i hz
      refine tEa_ok m l e fun al1 vs H1 x1 m1 l1 r1 => ⟨?_, fun q hq => fin_lst (hf.ext x1) m1 r1 hq⟩
      rw [r1.length, ← line_eq]
      exact of_decide_eq_true hz
    · exact hf.elim
theorem se_lstM (h : SA X cf es xs) : SE X cf (.List es pos) (.lst true xs) := by
  refine (pe_lst h).imp fun sg H Q q => ?_
  obtain ⟨al, r, M, m, l, hf⟩ := q
  simp only [ev] at hf
  cases e : evs cf xs r M with
  | stop => rw [e] at hf; exact hf.elim
  | ok ds M1 =>
    rw [e] at hf
    simp only at hf
    split at hf
    · rename_i hz
      refine tEa_ok m l e fun al1 vs H1 x1 m1 l1 r1 => ⟨?_, fun q hq => fin_lstM (hf.ext x1) m1 r1 hq⟩
      rw [r1.length, ← line_eq]
      exact of_decide_eq_true hz
    · exact hf.elim

/-! ### operators -/
/-- two values, then f of them -/
def Two (cf : CF) (x y z : Ex) (f : D → D → Mem → R D) : Prop := ∀ r M d2 M', ev cf z r M = .ok d2 M' → ∃ d M1 e M2, ev cf x r M = .ok d M1 ∧ ev cf y r M1 = .ok e M2 ∧ f d e M2 = .ok d2 M'
theorem ev_two {K : Fr} {f : D → D → Mem → R D} {sg : L2.St} {H : Hp} {Q : VK} (t : Two cf x y z f) (h : tEv K (fun r M => ev cf z r M) sg H Q) : tOp (rBin K f) (tEv K fun r M => ev cf x r M) (tEv K fun r M => ev cf y r M) sg H Q := by
  obtain ⟨al, r, M, m, l, hf⟩ := h
  simp only at hf
  obtain ⟨d, M', e⟩ := fe_ok hf
  obtain ⟨d1, M1, d2, M2, e1, e2, e3⟩ := t r M d M' e
  rw [e, ← e3] at hf
  exact tEv_ok m l e1 fun al1 v H1 x1 m1 l1 r1 => tEv_ok m1 l1 e2 fun al2 w H2 x2 m2 l2 r2 => ⟨al2, M2, d1, d2, m2, RepV.ext x2 _ _ r1, r2, hf.ext (x1.trans x2)⟩
theorem two_bin {o : Bop} : Two cf x y (.bin o x y) (binD o) := by
  intro r M d2 M' h
  simp only [ev] at h
  split at h
  · split at h
    · exact ⟨_, _, _, _, ‹_›, ‹_›, h⟩
    · cases h
  · cases h
theorem two_cmp {o : Cop} : Two cf x y (.cmp o x y) (cmpD o) := by
  intro r M d2 M' h
  simp only [ev] at h
  split at h
  · split at h
    · exact ⟨_, _, _, _, ‹_›, ‹_›, h⟩
    · cases h
  · cases h
theorem two_ix : Two cf x y (.ix x y) ixD := by
  intro r M d2 M' h
  simp only [ev] at h
  split at h
  · split at h
    · exact ⟨_, _, _, _, ‹_›, ‹_›, h⟩
    · cases h
  · cases h
theorem se_bin {o : Bop} {op : Operator} (ho : OpR X (binaryOp op) (rBin X.K (binD o))) (ha : SE X cf a x) (hb : SE X cf b y) : SE X cf (.BinOp a op b pos) (.bin o x y) :=
  (pe_op ho ha hb).imp fun sg H Q h => ev_two two_bin h
theorem se_add (ha : SE X cf a x) (hb : SE X cf b y) : SE X cf (.BinOp a .Add b pos) (.bin .add x y) := se_bin op_bin_add ha hb
theorem se_sub (ha : SE X cf a x) (hb : SE X cf b y) : SE X cf (.BinOp a .Sub b pos) (.bin .sub x y) := se_bin op_bin_sub ha hb
theorem se_mul (ha : SE X cf a x) (hb : SE X cf b y) : SE X cf (.BinOp a .Mult b pos) (.bin .mul x y) := se_bin op_bin_mul ha hb
theorem se_fdiv (ha : SE X cf a x) (hb : SE X cf b y) : SE X cf (.BinOp a .FloorDiv b pos) (.bin .fdiv x y) := se_bin op_bin_fdiv ha hb
theorem se_mod (ha : SE X cf a x) (hb : SE X cf b y) : SE X cf (.BinOp a .Mod b pos) (.bin .mod x y) := se_bin op_bin_mod ha hb
theorem se_pow (ha : SE X cf a x) (hb : SE X cf b y) : SE X cf (.BinOp a .Pow b pos) (.bin .pow x y) := se_bin op_bin_pow ha hb
def catD (a b : D) (m : Mem) : R D := match itemsOf a m, itemsOf b m with
  | some l, some k => if decide (l.length + k.length ≤ line) then .ok (.obj m.length) (m ++ [.lst (l ++ k)]) else .stop
  | _, _ => .stop
theorem op_catM : OpR X (binaryOp .Add) (rBin X.K catD) := by
  intro pins s sg H u v w w' Q I ru rv h
  obtain ⟨al, M, dx, dy, m, r1, r2, hf⟩ := h
  unfold catD at hf
  cases e1 : itemsOf dx M with
  | none => rw [e1] at hf; exact hf.elim
  | some l =>
    cases e2 : itemsOf dy M with
    | none => rw [e1, e2] at hf; exact hf.elim
    | some k =>
      rw [e1, e2] at hf
      simp only at hf
      split at hf
      · rename_i hz
        simp only [decide_eq_true_eq] at hz
        obtain ⟨p, vs, rfl, hp, rs⟩ := items_rep m r1 e1
        obtain ⟨q, ws, rfl, hq, rs'⟩ := items_rep m r2 e2
        refine op_catS pins s sg H _ _ w w' Q I ru rv ⟨p, q, vs, ws, rfl, rfl, hp, hq, ?_, fun b hb => fin_lstM hf m (rs.append rs') hb⟩
        rw [rs.length, rs'.length, ← line_eq]
        exact hz
      · exact hf.elim
theorem se_catM (ha : SE X cf a x) (hb : SE X cf b y) : SE X cf (.BinOp a .Add b pos) (.catM x y) :=
  (pe_op op_catM ha hb).imp fun sg H Q h => ev_two (f := catD) (fun r M d2 M' h => by
    simp only [ev] at h
    split at h
    · split at h
      · exact ⟨_, _, _, _, ‹_›, ‹_›, h⟩
      · cases h
    · cases h) h
theorem se_cmp {o : Cop} {op : CmpOp} (ho : OpR X (compareOp op) (rBin X.K (cmpD o))) (hm : behindInMarks op b = false) (ha : SE X cf a x) (hb : SE X cf b y) : SE X cf (.Compare a [op] [b] pos) (.cmp o x y) :=
  (pe_cmpR ho ha hb hm).imp fun sg H Q h => ev_two two_cmp h
theorem cmp_bl {o : Cop} {d e c : D} {m m' : Mem} (h : cmpD o d e m = .ok c m') : ∃ k, c = .bl k := by
  cases o <;> simp only [cmpD] at h <;> (split at h <;> first | (cases h; exact ⟨_, rfl⟩) | cases h)
theorem truth_bl {k : Bool} {M : Mem} : truth (.bl k) M = some k := rfl
theorem test_bl {K : Fr} {H : Hp} {al : Al} {r : R D} {Q : Bool → Hp → Prop} (h : FinT K H al (testOf r) Q) (hb : ∀ d M, r = .ok d M → ∃ k, d = .bl k) : FinE K H al r (fun v H1 => ∃ k, v = .bl k ∧ Q k H1) := by
  cases r with
  | stop => exact h
  | ok d M =>
    obtain ⟨k, rfl⟩ := hb d M rfl
    intro al1 v H1 x1 m1 r1
    simp only [RepV] at r1
    exact ⟨k, r1, h al1 H1 x1 m1⟩
theorem st_cmp {o : Cop} {op : CmpOp} (ho : OpR X (compareOp op) (rBin X.K (cmpD o))) (hm : behindInMarks op b = false) (ha : SE X cf a x) (hb : SE X cf b y) : ST X cf (.Compare a [op] [b] pos) (.cmp o x y) := by
  refine (pt_cmpR ho ha hb hm).imp fun sg H Q h => ?_
  obtain ⟨al, r, M, m, l, hf⟩ := h
  refine ev_two two_cmp ⟨al, r, M, m, l, test_bl hf fun d M' e => ?_⟩
  obtain ⟨_, _, _, _, _, _, e3⟩ := two_cmp r M d M' e
  exact cmp_bl e3
variable (hu : X.A.units + 64 < cLine)
include hu
theorem se_eq (ha : SE X cf a x) (hb : SE X cf b y) : SE X cf (.Compare a [.Eq] [b] pos) (.cmp .eq x y) := se_cmp (op_cmp_eq hu) (nobehind _ (by decide) (by decide)) ha hb
theorem se_ne (ha : SE X cf a x) (hb : SE X cf b y) : SE X cf (.Compare a [.NotEq] [b] pos) (.cmp .ne x y) := se_cmp (op_cmp_ne hu) (nobehind _ (by decide) (by decide)) ha hb
theorem se_mem (ha : SE X cf a x) (hb : SE X cf b y) (hm : behindInMarks .In b = false := by rfl) : SE X cf (.Compare a [.In] [b] pos) (.cmp .mem x y) := se_cmp (op_cmp_mem hu) hm ha hb
theorem se_nmem (ha : SE X cf a x) (hb : SE X cf b y) (hm : behindInMarks .NotIn b = false := by rfl) : SE X cf (.Compare a [.NotIn] [b] pos) (.cmp .nmem x y) := se_cmp (op_cmp_nmem hu) hm ha hb
theorem st_eq (ha : SE X cf a x) (hb : SE X cf b y) : ST X cf (.Compare a [.Eq] [b] pos) (.cmp .eq x y) := st_cmp (op_cmp_eq hu) (nobehind _ (by decide) (by decide)) ha hb
theorem st_ne (ha : SE X cf a x) (hb : SE X cf b y) : ST X cf (.Compare a [.NotEq] [b] pos) (.cmp .ne x y) := st_cmp (op_cmp_ne hu) (nobehind _ (by decide) (by decide)) ha hb
theorem st_mem (ha : SE X cf a x) (hb : SE X cf b y) (hm : behindInMarks .In b = false := by rfl) : ST X cf (.Compare a [.In] [b] pos) (.cmp .mem x y) := st_cmp (op_cmp_mem hu) hm ha hb
theorem st_nmem (ha : SE X cf a x) (hb : SE X cf b y) (hm : behindInMarks .NotIn b = false := by rfl) : ST X cf (.Compare a [.NotIn] [b] pos) (.cmp .nmem x y) := st_cmp (op_cmp_nmem hu) hm ha hb
theorem se_ix (ha : SE X cf a x) (hb : SE X cf b y) (hs : PlainIx b := by exact fun _ _ => rfl) : SE X cf (.Subscript a b pos) (.ix x y) :=
  (pe_ix (ix_D hu) ha hb hs).imp fun sg H Q h => ev_two two_ix h
omit hu
theorem se_lt (ha : SE X cf a x) (hb : SE X cf b y) : SE X cf (.Compare a [.Lt] [b] pos) (.cmp .lt x y) := se_cmp op_cmp_lt (nobehind _ (by decide) (by decide)) ha hb
theorem se_le (ha : SE X cf a x) (hb : SE X cf b y) : SE X cf (.Compare a [.LtE] [b] pos) (.cmp .le x y) := se_cmp op_cmp_le (nobehind _ (by decide) (by decide)) ha hb
theorem se_gt (ha : SE X cf a x) (hb : SE X cf b y) : SE X cf (.Compare a [.Gt] [b] pos) (.cmp .gt x y) := se_cmp op_cmp_gt (nobehind _ (by decide) (by decide)) ha hb
theorem se_ge (ha : SE X cf a x) (hb : SE X cf b y) : SE X cf (.Compare a [.GtE] [b] pos) (.cmp .ge x y) := se_cmp op_cmp_ge (nobehind _ (by decide) (by decide)) ha hb
theorem st_lt (ha : SE X cf a x) (hb : SE X cf b y) : ST X cf (.Compare a [.Lt] [b] pos) (.cmp .lt x y) := st_cmp op_cmp_lt (nobehind _ (by decide) (by decide)) ha hb
theorem st_le (ha : SE X cf a x) (hb : SE X cf b y) : ST X cf (.Compare a [.LtE] [b] pos) (.cmp .le x y) := st_cmp op_cmp_le (nobehind _ (by decide) (by decide)) ha hb
theorem st_gt (ha : SE X cf a x) (hb : SE X cf b y) : ST X cf (.Compare a [.Gt] [b] pos) (.cmp .gt x y) := st_cmp op_cmp_gt (nobehind _ (by decide) (by decide)) ha hb
theorem st_ge (ha : SE X cf a x) (hb : SE X cf b y) : ST X cf (.Compare a [.GtE] [b] pos) (.cmp .ge x y) := st_cmp op_cmp_ge (nobehind _ (by decide) (by decide)) ha hb
/-- one value, then f of it -/
def One (cf : CF) (x z : Ex) (f : D → Mem → R D) : Prop := ∀ r M d2 M', ev cf z r M = .ok d2 M' → ∃ d M1, ev cf x r M = .ok d M1 ∧ f d M1 = .ok d2 M'
theorem ev_one {K : Fr} {f : D → Mem → R D} {sg : L2.St} {H : Hp} {Q : VK} {u : V → Hp → VK → Prop} (t : One cf x z f) (h : tEv K (fun r M => ev cf z r M) sg H Q) (k : ∀ al M d v H, RepM K H al M → RepV K H al d v → FinE K H al (f d M) Q → u v H Q) :
    tEv K (fun r M => ev cf x r M) sg H fun v H1 => u v H1 Q := by
  obtain ⟨al, r, M, m, l, hf⟩ := h
  simp only at hf
  obtain ⟨d, M', e⟩ := fe_ok hf
  obtain ⟨d1, M1, e1, e3⟩ := t r M d M' e
  rw [e, ← e3] at hf
  exact tEv_ok m l e1 fun al1 v H1 x1 m1 l1 r1 => k al1 M1 d1 v H1 m1 r1 (hf.ext x1)
def nonD (b : Bool) (d : D) (m : Mem) : R D := match d with
  | .non => .ok (.bl b) m
  | .opq => .stop
  | _ => .ok (.bl (!b)) m
theorem one_isN : One cf x (.isN x) (nonD true) := by
  intro r M d2 M' h
  simp only [ev] at h
  split at h
  · rename_i e
    exact ⟨.non, _, e, h⟩
  · cases h
  · rename_i e
    refine ⟨_, _, e, ?_⟩
    unfold nonD
    split <;> first | contradiction | exact h
  · cases h
theorem one_notN : One cf x (.notN x) (nonD false) := by
  intro r M d2 M' h
  simp only [ev] at h
  split at h
  · rename_i e
    exact ⟨.non, _, e, h⟩
  · cases h
  · rename_i e
    refine ⟨_, _, e, ?_⟩
    unfold nonD
    split <;> first | contradiction | exact h
  · cases h
theorem nonD_rep {K : Fr} {H : Hp} {al : Al} {M : Mem} {d : D} {v : V} {b : Bool} {Q : VK} (m : RepM K H al M) (r : RepV K H al d v) (hf : FinE K H al (nonD b d M) Q) : Q (.bl (if v = .non then b else !b)) H := by
  cases d <;> simp only [RepV] at r
  case non => subst r; exact fin_of hf m (RepV.mkBl _)
  case bl => subst r; exact fin_of hf m (RepV.mkBl _)
  case int => subst r; exact fin_of hf m (RepV.mkBl _)
  case str => obtain ⟨rfl, _⟩ := r; exact fin_of hf m (RepV.mkBl _)
  case tup => obtain ⟨_, _, rfl, _⟩ := r; exact fin_of hf m (RepV.mkBl _)
  case lst => obtain ⟨_, _, rfl, _⟩ := r; exact fin_of hf m (RepV.mkBl _)
  case dct => obtain ⟨_, _, _, rfl, _⟩ := r; exact fin_of hf m (RepV.mkBl _)
  case obj => obtain ⟨_, _, rfl⟩ := r; exact fin_of hf m (RepV.mkBl _)
  case opq => exact hf.elim
theorem se_isN {j : Nat} (ha : SE X cf a x) : SE X cf (.Compare a [.Is] [.Constant .none j p] pos) (.isN x) :=
  (pe_cmp (pc_isN ha)).imp fun sg H Q h => ev_one (u := fun v H Q => Q (.bl (decide (v = .non))) H) one_isN h fun al M d v H m r hf => by
    have q := nonD_rep m r hf
    by_cases hv : v = .non
    · rw [if_pos hv] at q; rw [decide_eq_true hv]; exact q
    · rw [if_neg hv] at q; rw [decide_eq_false hv]; exact q
theorem se_notN {j : Nat} (ha : SE X cf a x) : SE X cf (.Compare a [.IsNot] [.Constant .none j p] pos) (.notN x) :=
  (pe_cmp (pc_notN ha)).imp fun sg H Q h => ev_one (u := fun v H Q => Q (.bl (!decide (v = .non))) H) one_notN h fun al M d v H m r hf => by
    have q := nonD_rep m r hf
    by_cases hv : v = .non
    · rw [if_pos hv] at q; rw [decide_eq_true hv]; exact q
    · rw [if_neg hv] at q; rw [decide_eq_false hv]; exact q
/-- .. as tests -/
theorem st_isN {j : Nat} (ha : SE X cf a x) : ST X cf (.Compare a [.Is] [.Constant .none j p] pos) (.isN x) := by
  refine (pt_cmp (pc_isN ha)).imp fun sg H Q h => ?_
  obtain ⟨al, r, M, m, l, hf⟩ := h
  refine ev_one (u := fun v H Q => Q (.bl (decide (v = .non))) H) (Q := fun v H1 => ∃ k, v = .bl k ∧ Q k H1) one_isN ⟨al, r, M, m, l, test_bl hf fun d M' e => ?_⟩ fun al M d v H m r hf => ?_
  · obtain ⟨d1, M1, _, e2⟩ := one_isN r M d M' e
    unfold nonD at e2
    split at e2 <;> first | (cases e2; exact ⟨_, rfl⟩) | cases e2
  · have q := nonD_rep m r hf
    by_cases hv : v = .non
    · rw [if_pos hv] at q; rw [decide_eq_true hv]; exact q
    · rw [if_neg hv] at q; rw [decide_eq_false hv]; exact q
theorem st_notN {j : Nat} (ha : SE X cf a x) : ST X cf (.Compare a [.IsNot] [.Constant .none j p] pos) (.notN x) := by
  refine (pt_cmp (pc_notN ha)).imp fun sg H Q h => ?_
  obtain ⟨al, r, M, m, l, hf⟩ := h
  refine ev_one (u := fun v H Q => Q (.bl (!decide (v = .non))) H) (Q := fun v H1 => ∃ k, v = .bl k ∧ Q k H1) one_notN ⟨al, r, M, m, l, test_bl hf fun d M' e => ?_⟩ fun al M d v H m r hf => ?_
  · obtain ⟨d1, M1, _, e2⟩ := one_notN r M d M' e
    unfold nonD at e2
    split at e2 <;> first | (cases e2; exact ⟨_, rfl⟩) | cases e2
  · have q := nonD_rep m r hf
    by_cases hv : v = .non
    · rw [if_pos hv] at q; rw [decide_eq_true hv]; exact q
    · rw [if_neg hv] at q; rw [decide_eq_false hv]; exact q
end
end MP
set_option Elab.async false
set_option linter.all false
set_option maxRecDepth 100000
set_option autoImplicit false
namespace MP
open PySem PySem.Spec PyProof.Rows L2

section
variable {X : Cx} {cf : CF} {e a b c : Expr} {es : List Expr} {x y z : Ex} {xs : List Ex} {pos p p1 p2 p3 apos : Pos} {rest : List Expr}

/-! ### truth -/
theorem tru_rep {K : Fr} {H : Hp} {al : Al} {M : Mem} {d : D} {v : V} {k : Bool} (m : RepM K H al M) (r : RepV K H al d v) (e : truth d M = some k) : TruV K v H k := by
  cases d with
  | non =>
    simp only [RepV] at r; subst r
    simp only [truth, Option.some.injEq] at e
    exact e.symm
  | bl b =>
    simp only [RepV] at r; subst r
    simp only [truth, Option.some.injEq] at e
    exact e.symm
  | int i =>
    simp only [RepV] at r; subst r
    simp only [truth, Option.some.injEq] at e
    exact e.symm
  | str s =>
    simp only [RepV] at r
    obtain ⟨rfl, _⟩ := r
    simp only [truth] at e
    split at e
    · rename_i hz
      simp only [decide_eq_true_eq, line_eq] at hz
      cases e
      refine ⟨by show s.toArray.size ≤ _; simpa using hz, ?_⟩
      show (!s.isEmpty) = ((s.toArray.size : Int) != 0)
      cases s with
      | nil => rfl
      | cons a t =>
        have : ((List.length t : Int) + 1 != 0) = true := by
          rw [bne_iff_ne]; omega
        simpa using this.symm
    · cases e
  | tup l =>
    simp only [RepV] at r
    obtain ⟨p, vs, rfl, hp, w⟩ := r
    simp only [truth, Option.some.injEq] at e
    refine .inr (.inl ⟨vs, .inl (.inl hp), ?_⟩)
    rw [← e]
    have := w.length
    cases l <;> cases vs <;> simp at this ⊢
  | lst l =>
    simp only [RepV] at r
    obtain ⟨p, vs, rfl, hp, w⟩ := r
    simp only [truth, Option.some.injEq] at e
    refine .inl ⟨vs, hp.seq, ?_⟩
    rw [← e]
    have := w.length
    cases l <;> cases vs <;> simp at this ⊢
  | dct _ _ _ => cases e
  | opq => cases e
  | obj i =>
    simp only [truth] at e
    cases ho : M[i]? with
    | none => rw [ho] at e; cases e
    | some o =>
      rw [ho] at e
      cases o with
      | dct _ _ _ => cases e
      | lst l =>
        obtain ⟨p, vs, rfl, _, hp, w⟩ := listM m r ho
        simp only [Option.some.injEq] at e
        refine .inl ⟨vs, .inl (.inl hp), ?_⟩
        rw [← e]
        have := w.length
        cases l <;> cases vs <;> simp at this ⊢
theorem test_ok {r : Env} {M M' : Mem} {k : Bool} (h : testOf (ev cf x r M) = .ok k M') : ∃ d, ev cf x r M = .ok d M' ∧ truth d M' = some k := by
  cases e : ev cf x r M with
  | stop => rw [e] at h; cases h
  | ok d M1 =>
    rw [e] at h
    simp only [testOf] at h
    cases e2 : truth d M1 with
    | none => rw [e2] at h; cases h
    | some b =>
      rw [e2] at h
      cases h
      exact ⟨d, rfl, e2⟩
/-- a plain expression as a test -/
theorem st_tru (ha : SE X cf a x) (he : ∀ whole, isTrue a X.env whole = (do let v ← whole; standAt a.pos; holding [v] (truthy v)) := by exact fun _ => rfl) : ST X cf a x := by
  refine (pt_truth ha he).imp fun sg H Q h => ?_
  obtain ⟨al, r, M, m, l, hf⟩ := h
  obtain ⟨k, M', e⟩ := ft_ok hf
  simp only at hf e
  obtain ⟨d, e1, e2⟩ := test_ok e
  rw [e] at hf
  exact tEv_ok m l e1 fun al1 v H1 x1 m1 l1 r1 => ⟨k, tru_rep m1 r1 e2, hf al1 H1 x1 m1⟩
theorem st_not (ha : ST X cf a x) : ST X cf (.UnaryOp .Not a pos) (.not x) := by
  refine (pt_not ha).imp fun sg H Q h => ?_
  obtain ⟨al, r, M, m, l, hf⟩ := h
  simp only [ev] at hf
  cases e : testOf (ev cf x r M) with
  | stop => rw [e] at hf; exact hf.elim
  | ok k M1 =>
    rw [e] at hf
    exact tEt_ok m l e fun al1 H1 x1 m1 l1 => hf al1 H1 x1 m1
theorem se_not (ha : SE X cf a x) : SE X cf (.UnaryOp .Not a pos) (.not x) := by
  refine (pe_notT ha).imp fun sg H Q h => ?_
  obtain ⟨al, r, M, m, l, hf⟩ := h
  simp only [ev] at hf
  cases e : testOf (ev cf x r M) with
  | stop => rw [e] at hf; exact hf.elim
  | ok k M1 =>
    rw [e] at hf
    obtain ⟨d, e1, e2⟩ := test_ok e
    exact tEv_ok m l e1 fun al1 v H1 x1 m1 l1 r1 => ⟨k, tru_rep m1 r1 e2, fin_of (hf.ext x1) m1 (RepV.mkBl _)⟩
theorem se_one {op : BoolOp} (ha : SE X cf a x) : SE X cf (.BoolOp op [a] pos) x := pe_one ha
theorem se_and (ha : SE X cf a x) (hb : SE X cf (.BoolOp .And (b :: rest) pos) y) : SE X cf (.BoolOp .And (a :: b :: rest) pos) (.and x y) := by
  refine (pe_andT ha hb).imp fun sg H Q h => ?_
  obtain ⟨al, r, M, m, l, hf⟩ := h
  simp only [ev] at hf
  cases e : ev cf x r M with
  | stop => rw [e] at hf; exact hf.elim
  | ok d M1 =>
    rw [e] at hf
    simp only at hf
    refine tEv_ok m l e fun al1 v H1 x1 m1 l1 r1 => ?_
    cases e2 : truth d M1 with
    | none => rw [e2] at hf; exact hf.elim
    | some k =>
      rw [e2] at hf
      refine ⟨k, tru_rep m1 r1 e2, ?_⟩
      cases k with
      | true => exact iteT ⟨al1, r, M1, m1, l1, hf.ext x1⟩
      | false => exact iteF (fin_of (hf.ext x1) m1 r1)
theorem se_or (ha : SE X cf a x) (hb : SE X cf (.BoolOp .Or (b :: rest) pos) y) : SE X cf (.BoolOp .Or (a :: b :: rest) pos) (.or x y) := by
  refine (pe_orT ha hb).imp fun sg H Q h => ?_
  obtain ⟨al, r, M, m, l, hf⟩ := h
  simp only [ev] at hf
  cases e : ev cf x r M with
  | stop => rw [e] at hf; exact hf.elim
  | ok d M1 =>
    rw [e] at hf
    simp only at hf
    refine tEv_ok m l e fun al1 v H1 x1 m1 l1 r1 => ?_
    cases e2 : truth d M1 with
    | none => rw [e2] at hf; exact hf.elim
    | some k =>
      rw [e2] at hf
      refine ⟨k, tru_rep m1 r1 e2, ?_⟩
      cases k with
      | true => exact iteT (fin_of (hf.ext x1) m1 r1)
      | false => exact iteF ⟨al1, r, M1, m1, l1, hf.ext x1⟩
theorem sw_and1 (ha : ST X cf a x) : SW X cf (.BoolOp .And [a] pos) x := pw_and1 ha
theorem sw_or1 (ha : ST X cf a x) : SW X cf (.BoolOp .Or [a] pos) x := pw_or1 ha
theorem sw_and (ha : ST X cf a x) (hb : SW X cf (.BoolOp .And (b :: rest) pos) y) : SW X cf (.BoolOp .And (a :: b :: rest) pos) (.and x y) := by
  refine (pw_and ha hb).imp fun sg H Q h => ?_
  obtain ⟨al, r, M, m, l, hf⟩ := h
  obtain ⟨k, M', e⟩ := ft_ok hf
  simp only at hf e
  obtain ⟨d, e1, e2⟩ := test_ok e
  simp only [ev] at e1
  cases e3 : ev cf x r M with
  | stop => rw [e3] at e1; cases e1
  | ok d1 M1 =>
    rw [e3] at e1
    simp only at e1
    cases e4 : truth d1 M1 with
    | none => rw [e4] at e1; cases e1
    | some k1 =>
      rw [e4] at e1
      have t1 : testOf (ev cf x r M) = .ok k1 M1 := by rw [e3]; simp only [testOf, e4]
      refine tEt_ok m l t1 fun al1 H1 x1 m1 l1 => ?_
      cases k1 with
      | true =>
        refine iteT ⟨al1, r, M1, m1, l1, ?_⟩
        have t2 : testOf (ev cf y r M1) = .ok k M' := by rw [show ev cf y r M1 = .ok d M' from e1]; simp only [testOf, e2]
        simp only [t2]
        rw [e] at hf
        exact hf.ext x1
      | false =>
        cases e1
        rw [e4] at e2
        cases e2
        rw [e] at hf
        exact iteF (hf al1 H1 x1 m1)
theorem sw_or (ha : ST X cf a x) (hb : SW X cf (.BoolOp .Or (b :: rest) pos) y) : SW X cf (.BoolOp .Or (a :: b :: rest) pos) (.or x y) := by
  refine (pw_or ha hb).imp fun sg H Q h => ?_
  obtain ⟨al, r, M, m, l, hf⟩ := h
  obtain ⟨k, M', e⟩ := ft_ok hf
  simp only at hf e
  obtain ⟨d, e1, e2⟩ := test_ok e
  simp only [ev] at e1
  cases e3 : ev cf x r M with
  | stop => rw [e3] at e1; cases e1
  | ok d1 M1 =>
    rw [e3] at e1
    simp only at e1
    cases e4 : truth d1 M1 with
    | none => rw [e4] at e1; cases e1
    | some k1 =>
      rw [e4] at e1
      have t1 : testOf (ev cf x r M) = .ok k1 M1 := by rw [e3]; simp only [testOf, e4]
      refine tEt_ok m l t1 fun al1 H1 x1 m1 l1 => ?_
      cases k1 with
      | true =>
        cases e1
        rw [e4] at e2
        cases e2
        rw [e] at hf
        exact iteT (hf al1 H1 x1 m1)
      | false =>
        refine iteF ⟨al1, r, M1, m1, l1, ?_⟩
        have t2 : testOf (ev cf y r M1) = .ok k M' := by rw [show ev cf y r M1 = .ok d M' from e1]; simp only [testOf, e2]
        simp only [t2]
        rw [e] at hf
        exact hf.ext x1
theorem st_w (h : SW X cf e x) : ST X cf e x := h.pt
theorem se_ite (hc : ST X cf c z) (ha : SE X cf a x) (hb : SE X cf b y) : SE X cf (.IfExp c a b pos) (.ite z x y) := by
  refine (pe_ifExp hc ha hb).imp fun sg H Q h => ?_
  obtain ⟨al, r, M, m, l, hf⟩ := h
  simp only [ev] at hf
  cases e : testOf (ev cf z r M) with
  | stop => rw [e] at hf; exact hf.elim
  | ok k M1 =>
    rw [e] at hf
    refine tEt_ok m l e fun al1 H1 x1 m1 l1 => ?_
    cases k with
    | true => exact iteT ⟨al1, r, M1, m1, l1, hf.ext x1⟩
    | false => exact iteF ⟨al1, r, M1, m1, l1, hf.ext x1⟩

/-! ### calls -/
theorem evs_len : ∀ (xs : List Ex) (r : Env) (M M' : Mem) (ds : List D), evs cf xs r M = .ok ds M' → ds.length = xs.length
  | [], r, M, M', ds, h => by simp only [evs] at h; cases h; rfl
  | x :: xs, r, M, M', ds, h => by
    simp only [evs] at h
    split at h
    · split at h
      · cases h
        simp only [List.length_cons]
        rw [evs_len xs _ _ _ _ ‹_›]
      · cases h
    · cases h
/-- what a def of ours promises -/
def spOf (K : Fr) (cf : CF) (i n : Nat) : Sp := fun vs H Q _ => vs.length = n ∧ ∃ al M ds, RepM K H al M ∧ RepVs K H al ds vs ∧ FinE K H al (cf i ds M) Q
structure Callee (P : Program) (w : World) (K : Fr) (mg : Str → Option Value) (base : Heap) (A : Around) (cf : CF) (n : Str) (i k : Nat) : Prop where
  ex : ∃ (f : Addr) (fd : FuncData) (ps : List Str) (j : Nat), FnG P w K mg base CX0 j f fd ps (spOf K cf i k) ∧ Room j A ∧ mg n = some (.ref f) ∧ PySem.W.keepIn K (.ref f) = true ∧ Binds K fd ps []
  gd : A.guards = some []
theorem se_call {n : Str} {i k : Nat} (C : Callee X.prog X.w X.K X.mg X.base X.A cf n i k) (hk : xs.length = k) (ha : SA X cf (e :: es) xs) (hg : Gl X n := by rfl) (hdb : (n == ("__debug__" : Str)) = false := by decide)
    (he : starEach (e :: es) X.env = (false, eval e X.env) :: starEach es X.env := by rfl) (hpl : (backTo pos (starEach es X.env)).any (·.1) = false := by rfl) : SE X cf (.Call (.Name n p) (e :: es) [] pos) (.call i xs) := by
  obtain ⟨f, fd, ps, j, F, hr, hm, kp, hb⟩ := C.ex
  refine (pe_callG F C.gd hr hg hm kp hb pass0 ha hdb he hpl).imp fun sg H Q h => ?_
  obtain ⟨al, r, M, m, l, hf⟩ := h
  simp only [ev] at hf
  cases e : evs cf xs r M with
  | stop => rw [e] at hf; exact hf.elim
  | ok ds M1 =>
    rw [e] at hf
    refine tEa_ok m l e fun al1 vs H1 x1 m1 l1 r1 => ?_
    rw [List.append_nil]
    exact ⟨by rw [r1.length, evs_len _ _ _ _ _ e, hk], al1, M1, ds, m1, r1, hf.ext x1⟩
theorem se_call0 {n : Str} {i : Nat} (C : Callee X.prog X.w X.K X.mg X.base X.A cf n i 0) (hg : Gl X n := by rfl) (hdb : (n == ("__debug__" : Str)) = false := by decide) : SE X cf (.Call (.Name n p) [] [] pos) (.call i []) := by
  obtain ⟨f, fd, ps, j, F, hr, hm, kp, hb⟩ := C.ex
  refine (pe_callG0 F C.gd hr hg hm kp hb pass0 hdb).imp fun sg H Q h => ?_
  obtain ⟨al, r, M, m, l, hf⟩ := h
  simp only [ev, evs] at hf
  exact ⟨rfl, al, M, [], m, RepVs.nil, hf⟩
/-- built-in functions, types -/
theorem bi_rep {t : Bi} {sg : L2.St} {H : Hp} {Q : VK} (h : tEv X.K (fun r M => ev cf (.bi t xs) r M) sg H Q) : tCB (rCall X.K t) (tEa X.K fun r M => evs cf xs r M) sg H Q := by
  obtain ⟨al, r, M, m, l, hf⟩ := h
  simp only [ev] at hf
  cases e : evs cf xs r M with
  | stop => rw [e] at hf; exact hf.elim
  | ok ds M1 =>
    rw [e] at hf
    exact tEa_ok m l e fun al1 vs H1 x1 m1 l1 r1 => ⟨al1, M1, ds, m1, r1, hf.ext x1⟩
theorem se_biB {n : Str} {id : String} {t : Bi} (hc : CallR X (.builtin id) (rCall X.K t)) (hm : X.mg n = none) (hv : bootBuiltins n = some (.builtin id)) (ha : SA X cf (e :: es) xs) (hg : Gl X n := by rfl) (hn : n ≠ "__name__" := by decide) (hdb : (n == ("__debug__" : Str)) = false := by decide)
    (he : starEach (e :: es) X.env = (false, eval e X.env) :: starEach es X.env := by rfl) (hpl : (backTo pos (starEach es X.env)).any (·.1) = false := by rfl) : SE X cf (.Call (.Name n p) (e :: es) [] pos) (.bi t xs) :=
  (pe_callB hc hg hm hv ha hn hdb he hpl).imp fun _ _ _ h => bi_rep h
theorem se_biT {n : Str} {id : String} {t : Bi} (hc : CallR X (.type id) (rCall X.K t)) (hm : X.mg n = none) (hv : bootBuiltins n = some (.type id)) (ha : SA X cf (e :: es) xs) (hg : Gl X n := by rfl) (hn : n ≠ "__name__" := by decide) (hdb : (n == ("__debug__" : Str)) = false := by decide)
    (he : starEach (e :: es) X.env = (false, eval e X.env) :: starEach es X.env := by rfl) (hpl : (backTo pos (starEach es X.env)).any (·.1) = false := by rfl) : SE X cf (.Call (.Name n p) (e :: es) [] pos) (.bi t xs) :=
  (pe_callTy hc hg hm hv ha hn hdb he hpl).imp fun _ _ _ h => bi_rep h
theorem se_isin (t : Ty) {n : Str} (hm : X.mg "isinstance" = none) (hmt : X.mg n = none) (hv : bootBuiltins n = some (.type (tyName t))) (ha : SE X cf a x) (hg : Gl X "isinstance" := by rfl) (hgt : Gl X n := by rfl) (hn : n ≠ "__name__" := by decide) (hdb : (n == ("__debug__" : Str)) = false := by decide)
    (he : starEach [a, .Name n p2] X.env = (false, eval a X.env) :: starEach [.Name n p2] X.env := by rfl) (he2 : starEach [.Name n p2] X.env = (false, eval (.Name n p2) X.env) :: starEach [] X.env := by rfl)
    (hpl : (backTo pos (starEach [.Name n p2] X.env)).any (·.1) = false := by rfl) : SE X cf (.Call (.Name "isinstance" p) [a, .Name n p2] [] pos) (.isin x t) := by
  refine (pe_callB (call_isin_D t) hg hm boot_isinstance (pa_cons ha (pa_cons (pe_bltn (v := .ty (tyName t)) hgt hmt hv rfl hn hdb) pa_nil he2) he) (by decide) (by decide) he hpl).imp fun sg H Q h => ?_
  obtain ⟨al, r, M, m, l, hf⟩ := h
  simp only [ev] at hf
  cases e : ev cf x r M with
  | stop => rw [e] at hf; exact hf.elim
  | ok d M1 =>
    rw [e] at hf
    simp only at hf
    cases e2 : isD d t M1 with
    | none => rw [e2] at hf; exact hf.elim
    | some k =>
      rw [e2] at hf
      exact tEv_ok m l e fun al1 v H1 x1 m1 l1 r1 => ⟨al1, M1, d, v, k, rfl, m1, r1, e2, fin_of (hf.ext x1) m1 (RepV.mkBl k)⟩
end
end MP
set_option Elab.async false
set_option linter.all false
set_option maxRecDepth 100000
set_option autoImplicit false
namespace MP
open PySem PySem.Spec PyProof.Rows L2

section
variable {X : Cx} {cf : CF} {e a b c o : Expr} {es : List Expr} {x y z : Ex} {xs : List Ex} {pos p p1 p2 p3 apos cpos : Pos}

/-! ### methods of lists of ours -/
theorem me_ok {m : Me} {r : Env} {M M' : Mem} {d : D} (h : ev cf (.me m x xs) r M = .ok d M') : ∃ i M1 l ds M2, ev cf x r M = .ok (.obj i) M1 ∧ M1[i]? = some (.lst l) ∧ evs cf xs r M1 = .ok ds M2 ∧ meD m (.obj i) ds M2 = .ok d M' := by
  simp only [ev] at h
  split at h
  · rename_i i M1 e
    split at h
    · rename_i l e2
      split at h
      · exact ⟨i, M1, l, _, _, e, e2, ‹_›, h⟩
      · cases h
    · cases h
  · cases h
theorem me_rep {m : Me} {sg : L2.St} {H : Hp} {Q : VK} (h : tEv X.K (fun r M => ev cf (.me m x xs) r M) sg H Q) : tBM X.K "list" (rMe X.K m) (tEv X.K fun r M => ev cf x r M) (tEa X.K fun r M => evs cf xs r M) sg H Q := by
  obtain ⟨al, r, M, m0, l, hf⟩ := h
  simp only at hf
  obtain ⟨d, M', e⟩ := fe_ok hf
  obtain ⟨i, M1, ls, ds, M2, e1, e2, e3, e4⟩ := me_ok e
  rw [e, ← e4] at hf
  refine tEv_ok m0 l e1 fun al1 v H1 x1 m1 l1 r1 => ⟨?_, tEa_ok m1 l1 e3 fun al2 vs H2 x2 m2 l2 r2 => ⟨al2, M2, i, ds, m2, RepV.ext x2 _ _ r1, r2, hf.ext (x1.trans x2)⟩⟩
  obtain ⟨q, vs, rfl, _, hp, _⟩ := listM m1 r1 e2
  exact .inl ⟨rfl, vs, .inl (.inl hp)⟩
theorem me_rep0 {m : Me} {sg : L2.St} {H : Hp} {Q : VK} (h : tEv X.K (fun r M => ev cf (.me m x []) r M) sg H Q) : tBM0 X.K "list" (rMe X.K m) (tEv X.K fun r M => ev cf x r M) sg H Q := by
  obtain ⟨al, r, M, m0, l, hf⟩ := h
  simp only at hf
  obtain ⟨d, M', e⟩ := fe_ok hf
  obtain ⟨i, M1, ls, ds, M2, e1, e2, e3, e4⟩ := me_ok e
  simp only [evs] at e3
  cases e3
  rw [e, ← e4] at hf
  refine tEv_ok m0 l e1 fun al1 v H1 x1 m1 l1 r1 => ⟨?_, al1, M1, i, [], m1, r1, RepVs.nil, hf.ext x1⟩
  obtain ⟨q, vs, rfl, _, hp, _⟩ := listM m1 r1 e2
  exact .inl ⟨rfl, vs, .inl (.inl hp)⟩
theorem se_append (ho : SE X cf o x) (ha : SE X cf e y) (hbase : attributeBase o "append" X.env (eval o X.env) = eval o X.env := by rfl)
    (hfew : ((backTo cpos (starEach [e] X.env)).all (fun x => !x.1) && (backToKw cpos (keywordEach [] X.env)).all (fun x => x.1.isSome) && decide (([e] : List Expr).length + ([] : List Keyword).length + (if ([] : List Keyword).isEmpty then 0 else 1) < 30)) = true := by rfl)
    (hline : (apos.endLine == cpos.line) = true := by rfl) (hs : starEach [e] X.env = (false, eval e X.env) :: starEach [] X.env := by rfl) (hplain : (backTo cpos (starEach [] X.env)).any (·.1) = false := by rfl) :
    SE X cf (.Call (.Attribute o "append" apos) [e] [] cpos) (.me .append x [y]) :=
  (pe_bm PySem.F.plainAttrs_list PySem.F.slot_list_append PySem.F.type_list_append mt_append_D ho (sa_cons ha sa_nil hs) hbase hfew hline hs hplain).imp fun _ _ _ h => me_rep h
theorem se_extend (ho : SE X cf o x) (ha : SE X cf e y) (hbase : attributeBase o "extend" X.env (eval o X.env) = eval o X.env := by rfl)
    (hfew : ((backTo cpos (starEach [e] X.env)).all (fun x => !x.1) && (backToKw cpos (keywordEach [] X.env)).all (fun x => x.1.isSome) && decide (([e] : List Expr).length + ([] : List Keyword).length + (if ([] : List Keyword).isEmpty then 0 else 1) < 30)) = true := by rfl)
    (hline : (apos.endLine == cpos.line) = true := by rfl) (hs : starEach [e] X.env = (false, eval e X.env) :: starEach [] X.env := by rfl) (hplain : (backTo cpos (starEach [] X.env)).any (·.1) = false := by rfl) :
    SE X cf (.Call (.Attribute o "extend" apos) [e] [] cpos) (.me .extend x [y]) :=
  (pe_bm PySem.F.plainAttrs_list PySem.F.slot_list_extend PySem.F.type_list_extend mt_extend_D ho (sa_cons ha sa_nil hs) hbase hfew hline hs hplain).imp fun _ _ _ h => me_rep h
theorem se_pop (ho : SE X cf o x) (hbase : attributeBase o "pop" X.env (eval o X.env) = eval o X.env := by rfl) (hline : (apos.endLine == cpos.line) = true := by rfl) : SE X cf (.Call (.Attribute o "pop" apos) [] [] cpos) (.me .pop x []) :=
  (pe_bm0 PySem.F.plainAttrs_list PySem.F.slot_list_pop PySem.F.type_list_pop mt_pop_D ho hbase hline).imp fun _ _ _ h => me_rep0 h

/-! ### slices -/
def tEo (K : Fr) (f : Env → Mem → R (List D)) : TO := fun sg H Q => ∃ al r M, RepM K H al M ∧ RepL K H al r sg ∧ match f r M with
  | .ok l M1 => (match boundOf l with
    | some b => ∀ al1 H1, Ext H al H1 al1 → RepM K H1 al1 M1 → Q b H1
    | none => False)
  | .stop => False
abbrev SO (X : Cx) (cf : CF) (o : Option Expr) (l : List Ex) : Prop := PO X o (tEo X.K fun r M => evs cf l r M)
theorem po_imp {o : Option Expr} {t u : TO} (h : PO X o t) (f : ∀ sg H Q, u sg H Q → t sg H Q) : PO X o u := ⟨fun pins s sg H Q I q => h.run pins s sg H Q I (f sg H Q q)⟩
theorem so_none : SO X cf none [] := po_imp po_none fun sg H Q h => by
  obtain ⟨al, r, M, m, l, hf⟩ := h
  simp only [evs, boundOf] at hf
  exact hf al H (Ext.refl _ _) m
theorem so_some (ha : SE X cf a x) : SO X cf (some a) [x] := po_imp (po_some ha) fun sg H Q h => by
  obtain ⟨al, r, M, m, l, hf⟩ := h
  simp only [evs] at hf
  cases e : ev cf x r M with
  | stop => rw [e] at hf; exact hf.elim
  | ok d M1 =>
    rw [e] at hf
    refine tEv_ok m l e fun al1 v H1 x1 m1 l1 r1 => ?_
    cases d with
    | int i =>
      simp only [RepV] at r1
      simp only [boundOf] at hf
      exact ⟨i, r1, hf al1 H1 x1 m1⟩
    | _ => exact hf.elim
theorem se_sl {lo hi : Option Expr} {l h : List Ex} (ha : SE X cf a x) (hl : SO X cf lo l) (hh : SO X cf hi h) : SE X cf (.Subscript a (.Slice lo hi none p2) pos) (.sl x l h) := by
  refine (pe_slice sl_D ha hl hh).imp fun sg H Q q => ?_
  obtain ⟨al, r, M, m, le, hf⟩ := q
  simp only [ev] at hf
  cases e : ev cf x r M with
  | stop => rw [e] at hf; exact hf.elim
  | ok d M1 =>
    rw [e] at hf
    simp only at hf
    cases e2 : evs cf l r M1 with
    | stop => rw [e2] at hf; exact hf.elim
    | ok dl M2 =>
      rw [e2] at hf
      simp only at hf
      cases e3 : evs cf h r M2 with
      | stop => rw [e3] at hf; exact hf.elim
      | ok dh M3 =>
        rw [e3] at hf
        simp only at hf
        cases b1 : boundOf dl with
        | none => rw [b1] at hf; exact hf.elim
        | some l' =>
          cases b2 : boundOf dh with
          | none => rw [b1, b2] at hf; exact hf.elim
          | some h' =>
            rw [b1, b2] at hf
            simp only at hf
            refine tEv_ok m le e fun al1 v H1 x1 m1 l1 r1 => ⟨al1, r, M1, m1, l1, ?_⟩
            simp only [e2, b1]
            intro al2 H2 x2 m2
            refine ⟨al2, r, M2, m2, l1.ext x2, ?_⟩
            simp only [e3, b2]
            intro al3 H3 x3 m3
            exact ⟨al3, M3, d, m3, RepV.ext (x2.trans x3) _ _ r1, hf.ext (x1.trans (x2.trans x3))⟩
/-- a[::-1] -/
theorem se_rev {k : Nat} (ha : SE X cf a x) : SE X cf (.Subscript a (.Slice none none (some (.UnaryOp .USub (.Constant (.int 1) k p1) p2)) p3) pos) (.rev x) := by
  constructor
  intro pins s sg H Q I q
  obtain ⟨al, r, M, m, l, hf⟩ := q
  simp only [ev] at hf
  cases e : ev cf x r M with
  | stop => rw [e] at hf; exact hf.elim
  | ok d M1 =>
    rw [e] at hf
    cases d with
    | tup ds =>
      refine (pe_revT ha).run pins s sg H Q I (tEv_ok m l e fun al1 v H1 x1 m1 l1 r1 => ?_)
      simp only [RepV] at r1
      obtain ⟨q, vs, rfl, hp, rs⟩ := r1
      exact ⟨q, vs, rfl, hp, fun g hg => fin_tup (hf.ext x1) m1 rs.reverse hg⟩
    | lst ds =>
      refine (pe_revL ha).run pins s sg H Q I (tEv_ok m l e fun al1 v H1 x1 m1 l1 r1 => ?_)
      simp only [RepV] at r1
      obtain ⟨q, vs, rfl, hp, rs⟩ := r1
      exact ⟨q, vs, rfl, hp.seq, fun g hg => fin_lst (hf.ext x1) m1 rs.reverse hg⟩
    | _ => exact hf.elim

/-! ### list(d.items()) -/
theorem se_items (hc : X.calm = true) (ha : SE X cf a x) (hm : X.mg "list" = none) (hg : Gl X "list" := by rfl) (hbase : attributeBase a "items" X.env (eval a X.env) = eval a X.env := by rfl) (hline : (apos.endLine == cpos.line) = true := by rfl)
    (hs : starEach [.Call (.Attribute a "items" apos) [] [] cpos] X.env = (false, eval (.Call (.Attribute a "items" apos) [] [] cpos) X.env) :: starEach [] X.env := by rfl) :
    SE X cf (.Call (.Name "list" p) [.Call (.Attribute a "items" apos) [] [] cpos] [] pos) (.bi .items [x]) := by
  refine (LiI.pe_listItems hc ha hg hm PyProof.Rows.boot_list hbase hline hs).imp fun sg H Q q => ?_
  obtain ⟨al, r, M, m, l, hf⟩ := q
  simp only [ev, evs] at hf
  cases e : ev cf x r M with
  | stop => rw [e] at hf; exact hf.elim
  | ok d M1 =>
    rw [e] at hf
    exact tEv_ok m l e fun al1 v H1 x1 m1 l1 r1 => items_D m1 r1 (hf.ext x1)

/-! ### repr(a) == repr(b), repr(a) == '()' -/
/-- repr of a value -/
def rRepr (K : Fr) : List V → Hp → VK → Prop := fun xs H Q => ∃ al d x, xs = [x] ∧ RepV K H al d x ∧ showOk d = true ∧ Q (.str (toPy d).shown) H
section
variable (hgd : X.A.guards = some []) (hu : X.A.units + 70 < cLine)
include hgd hu
theorem pe_repr (hm : X.mg "repr" = none) (ha : SE X cf a x) (hg : Gl X "repr") (he : starEach [a] X.env = (false, eval a X.env) :: starEach [] X.env) (hpl : (backTo pos (starEach [] X.env)).any (·.1) = false) :
    PE X (.Call (.Name "repr" p) [a] [] pos) (tCB (rRepr X.K) (tCons (tEv X.K fun r M => ev cf x r M) tNil)) :=
  pe_callB (call_repr_D hgd hu) hg hm boot_repr (pa_cons ha pa_nil he) (by decide) (by decide) he hpl
theorem two_repr {n : Bool} : Two cf x y (.reprEq n x y) (reprEqD n) := by
  intro r M d2 M' h
  simp only [ev] at h
  split at h
  · split at h
    · exact ⟨_, _, _, _, ‹_›, ‹_›, h⟩
    · cases h
  · cases h
theorem repr_two {n : Bool} {sg : L2.St} {H : Hp} {Q : VK} {u : R2} (hq : ∀ (w : Str) H1, Q (.bl (!n)) H1 → u (.str w) (.str w) H1 Q) (h : tEv X.K (fun r M => ev cf (.reprEq n x y) r M) sg H Q) :
    tOp u (tCB (rRepr X.K) (tCons (tEv X.K fun r M => ev cf x r M) tNil)) (tCB (rRepr X.K) (tCons (tEv X.K fun r M => ev cf y r M) tNil)) sg H Q := by
  obtain ⟨al, r, M, m, l, hf⟩ := h
  simp only at hf
  obtain ⟨d, M', e⟩ := fe_ok hf
  obtain ⟨d1, M1, d2, M2, e1, e2, e3⟩ := two_repr hgd hu r M d M' e
  unfold reprEqD at e3
  split at e3
  · rename_i ok
    simp only [Bool.and_eq_true] at ok
    cases e3
    rw [e] at hf
    obtain rfl := same_eq _ _ ok.1
    exact tEv_ok m l e1 fun al1 v H1 x1 m1 l1 r1 => ⟨al1, d1, v, rfl, r1, ok.2, tEv_ok m1 l1 e2 fun al2 w H2 x2 m2 l2 r2 => ⟨al2, d1, w, rfl, r2, ok.2, hq _ _ (fin_of (hf.ext (x1.trans x2)) m2 (RepV.mkBl _))⟩⟩
  · cases e3
theorem st_reprNe (hm : X.mg "repr" = none) (ha : SE X cf a x) (hb : SE X cf b y) (hg : Gl X "repr" := by rfl) (he : starEach [a] X.env = (false, eval a X.env) :: starEach [] X.env := by rfl) (he2 : starEach [b] X.env = (false, eval b X.env) :: starEach [] X.env := by rfl)
    (hpl : (backTo p1 (starEach [] X.env)).any (·.1) = false := by rfl) (hpl2 : (backTo p3 (starEach [] X.env)).any (·.1) = false := by rfl) :
    ST X cf (.Compare (.Call (.Name "repr" p) [a] [] p1) [.NotEq] [.Call (.Name "repr" p2) [b] [] p3] pos) (.reprEq true x y) := by
  refine (pt_cmpR op_ne (pe_repr hgd hu hm ha hg he hpl) (pe_repr hgd hu hm hb hg he2 hpl2) (nobehind _ (by decide) (by decide))).imp fun sg H Q h => ?_
  obtain ⟨al, r, M, m, l, hf⟩ := h
  refine repr_two hgd hu (n := true) (u := rNe) (fun w H1 q => ⟨rfl, by simpa using q⟩) ⟨al, r, M, m, l, test_bl hf fun d M' e => ?_⟩
  obtain ⟨_, _, _, _, _, _, e3⟩ := two_repr hgd hu r M d M' e
  unfold reprEqD at e3
  split at e3
  · cases e3; exact ⟨_, rfl⟩
  · cases e3
theorem se_reprEq (hm : X.mg "repr" = none) (ha : SE X cf a x) (hb : SE X cf b y) (hg : Gl X "repr" := by rfl) (he : starEach [a] X.env = (false, eval a X.env) :: starEach [] X.env := by rfl) (he2 : starEach [b] X.env = (false, eval b X.env) :: starEach [] X.env := by rfl)
    (hpl : (backTo p1 (starEach [] X.env)).any (·.1) = false := by rfl) (hpl2 : (backTo p3 (starEach [] X.env)).any (·.1) = false := by rfl) :
    SE X cf (.Compare (.Call (.Name "repr" p) [a] [] p1) [.Eq] [.Call (.Name "repr" p2) [b] [] p3] pos) (.reprEq false x y) :=
  (pe_cmpR op_eq (pe_repr hgd hu hm ha hg he hpl) (pe_repr hgd hu hm hb hg he2 hpl2) (nobehind _ (by decide) (by decide))).imp fun sg H Q h =>
    repr_two hgd hu (n := false) (u := rEq) (fun w H1 q => ⟨rfl, by simpa using q⟩) h
theorem st_reprEq (hm : X.mg "repr" = none) (ha : SE X cf a x) (hb : SE X cf b y) (hg : Gl X "repr" := by rfl) (he : starEach [a] X.env = (false, eval a X.env) :: starEach [] X.env := by rfl) (he2 : starEach [b] X.env = (false, eval b X.env) :: starEach [] X.env := by rfl)
    (hpl : (backTo p1 (starEach [] X.env)).any (·.1) = false := by rfl) (hpl2 : (backTo p3 (starEach [] X.env)).any (·.1) = false := by rfl) :
    ST X cf (.Compare (.Call (.Name "repr" p) [a] [] p1) [.Eq] [.Call (.Name "repr" p2) [b] [] p3] pos) (.reprEq false x y) := by
  refine (pt_cmpR op_eq (pe_repr hgd hu hm ha hg he hpl) (pe_repr hgd hu hm hb hg he2 hpl2) (nobehind _ (by decide) (by decide))).imp fun sg H Q h => ?_
  obtain ⟨al, r, M, m, l, hf⟩ := h
  refine repr_two hgd hu (n := false) (u := rEq) (fun w H1 q => ⟨rfl, by simpa using q⟩) ⟨al, r, M, m, l, test_bl hf fun d M' e => ?_⟩
  obtain ⟨_, _, _, _, _, _, e3⟩ := two_repr hgd hu r M d M' e
  unfold reprEqD at e3
  split at e3
  · cases e3; exact ⟨_, rfl⟩
  · cases e3
/-- repr(a) == '()' as a test -/
theorem st_reprNil {j : Nat} (hm : X.mg "repr" = none) (ha : SE X cf a x) (hg : Gl X "repr" := by rfl) (he : starEach [a] X.env = (false, eval a X.env) :: starEach [] X.env := by rfl) (hpl : (backTo p1 (starEach [] X.env)).any (·.1) = false := by rfl) :
    ST X cf (.Compare (.Call (.Name "repr" p) [a] [] p1) [.Eq] [.Constant (.str (("()" : String) : Str)) j p3] pos) (.reprNil false x) := by
  refine (pt_cmpR op_eq (pe_repr hgd hu hm ha hg he hpl) pe_str (nobehind _ (by decide) (by decide))).imp fun sg H Q h => ?_
  obtain ⟨al, r, M, m, l, hf⟩ := h
  obtain ⟨k, M', e⟩ := ft_ok hf
  simp only at hf e
  obtain ⟨d, e1, e2⟩ := test_ok e
  simp only [ev] at e1
  cases e3 : ev cf x r M with
  | stop => rw [e3] at e1; cases e1
  | ok d1 M1 =>
    rw [e3] at e1
    have e1 : reprNilD false d1 M1 = .ok d M' := e1
    obtain ⟨rfl, c, rfl⟩ := reprNil_bl _ _ _ _ _ e1
    have hs : showOk d1 = true := by
      unfold reprNilD at e1
      split at e1
      · assumption
      · cases e1
    have q := shown_nil d1 false M' M' _ e1
    cases e2
    rw [e] at hf
    refine tEv_ok m l e3 fun al1 v H1 x1 m1 l1 r1 => ⟨al1, d1, v, rfl, r1, hs, rfl, k, ?_, hf al1 H1 x1 m1⟩
    have : decide (V.str (toPy d1).shown = V.str (("()" : String) : Str)) = decide ((toPy d1).shown = (("()" : String) : Str)) := by
      by_cases hz : (toPy d1).shown = (("()" : String) : Str)
      · simp [hz]
      · simp [hz]
    rw [this, q]
    simp
end
end
end MP
set_option Elab.async false
set_option linter.all false
set_option maxRecDepth 100000
set_option autoImplicit false
namespace MP
open PySem PySem.Spec PyProof.Rows L2

/-! ### enumerate(a tuple) -/
theorem enum_new_tup (t : Addr) (items : Array Value) (o : Obj) (hc : o.cls = .type "tuple") (n : Nat) (hd : o.data = .seq items n) :
    Meets (Builtin.«enumerate.__new__» ⟨[.type "enumerate", .ref t], []⟩) (fun _ R s => s.heap.get? t = some o ∧
      R (.ok (.ret (.ref (s.heap.push { cls := .type "tuple_iterator", data := .fields #[.ref t, .int 0 0] }).objs.size)))
        { s with heap := (s.heap.push { cls := .type "tuple_iterator", data := .fields #[.ref t, .int 0 0] }).push { cls := .type "enumerate", data := .fields #[.none, .bool false, .ref s.heap.objs.size, rawInt 0, .none, .none] } }) :=
  .of_wp fun prog w A R s h => by
    obtain ⟨oc, od, odt, osl⟩ := o
    simp only at hc hd
    subst hc hd
    obtain ⟨hp, g, d, tk, os⟩ := s
    obtain ⟨hl, h⟩ := h
    have hsub := sub_enumerate
    have hT : Heap.IsTuple (Shared.heap ⟨hp, g, d, tk, os⟩) t items := ⟨_, hl, rfl, n, rfl⟩
    wp_walk using AutoSeq1.wpAny_loadPart' hl
    refine wpAny_stack_any fun st => wpAny_pure ?_
    split
    · rename_i c _ _ _ _ _
      cases (c == Value.type "enumerate")
      · wp_walk using AutoSeq1.wpAny_loadPart' hl, wpAny_pyIter_tuple hT
        exact ⟨_, rfl, h⟩
      · wp_walk using AutoSeq1.wpAny_loadPart' hl, wpAny_pyIter_tuple hT
        exact ⟨_, rfl, h⟩
    · wp_walk using AutoSeq1.wpAny_loadPart' hl, wpAny_pyIter_tuple hT
      exact ⟨_, rfl, h⟩
theorem call_enum_tup {prog : Program} {w : World} {A : Around} {E : Value → Shared → Prop} {s : Shared} {t : Addr} {items : Array Value} {Q : Value → Shared → Prop} (hT : IsTup s.heap t items)
    (h : ∀ h', IsEnum h' (s.heap.objs.size + 1) s.heap.objs.size 0 .none → h'.IsTupleIter s.heap.objs.size t 0 → (∀ b o, s.heap.get? b = some o → h'.get? b = some o) → Q (.ref (s.heap.objs.size + 1)) { s with heap := h' }) :
    wpAny (model prog w) A (call (.type "enumerate") [.ref t]) Q E s := by
  obtain ⟨o, ho, hc, n, hd⟩ := hT
  have hsize : ∀ (h : Heap) (u : Obj), (h.push u).objs.size = h.objs.size + 1 := fun h u => Heap.size_push ..
  refine callType_new F.called_enumerate (by decide) (F.typeCall_enumerate_1 _) (F.newCall_enumerate_1 _) (fun obj => F.args_object_init_2 obj _) F.entry_enumerate_new (enum_new_tup t items o hc n hd) ⟨ho, ?_⟩
  show _ ∧ _
  rw [hsize]
  have hit : ∀ u : Obj, ((s.heap.push { cls := .type "tuple_iterator", data := .fields #[.ref t, .int 0 0] }).push u).IsTupleIter s.heap.objs.size t 0 := fun u =>
    ⟨_, Heap.get?_push_of_some _ (Heap.get?_push_size _ rfl), rfl, rfl⟩
  have he : IsEnum ((s.heap.push { cls := .type "tuple_iterator", data := .fields #[.ref t, .int 0 0] }).push { cls := .type "enumerate", data := .fields #[.none, .bool false, .ref s.heap.objs.size, rawInt 0, .none, .none] }) (s.heap.objs.size + 1) s.heap.objs.size 0 .none := by
    have q := Heap.get?_push_size (s.heap.push { cls := .type "tuple_iterator", data := .fields #[.ref t, .int 0 0] }) (o := { cls := .type "enumerate", data := .fields #[.none, .bool false, .ref s.heap.objs.size, rawInt 0, .none, .none] }) rfl
    rw [hsize] at q
    exact q
  exact ⟨⟨_, he, rfl⟩, h _ he (hit _) fun b u x => Heap.get?_push_of_some _ (Heap.get?_push_of_some _ x)⟩
/-- the tuple at a, each item in a new pair -/
def IteT (K : Fr) (a : Addr) : L2.It where
  go := fun i H => ∃ (xs : List V) (x : V), SqT K H a xs ∧ xs[i]? = some x
  yld := fun i H v H' => ∃ T x, v = .ref T ∧ H T = none ∧ H' = upd H T (.tup [.int (i : Nat), x]) ∧ ∀ xs, SqT K H a xs → xs[i]? = some x
  stop := fun i H => ∃ xs : List V, SqT K H a xs ∧ xs.length ≤ i
theorem turn_enumT {P : Program} {w : World} {K : Fr} {elts : List Expr} {kk : Nat} {tpos : Pos} (a e it : Addr) :
    Turn P w K (.Tuple elts kk tpos) (IteT K a) [e, it] e (fun i h => (∃ old, IsEnum h e it ((i : Nat) : Int) old) ∧ h.IsTupleIter it a i ∧ e ≠ it) := by
  constructor
  case mem => simp
  case obj =>
    intro i h st b hb
    obtain ⟨⟨old, he⟩, ⟨o, ho, hc, hd⟩, _⟩ := st
    rcases (by simpa using hb : b = e ∨ b = it) with z | z
    · subst z
      exact ⟨_, he, fun v q => nomatch q⟩
    · subst z
      exact ⟨o, ho, fun v q => by rw [hd] at q; cases q⟩
  case keep =>
    intro i h h' st k
    obtain ⟨⟨old, he⟩, hi, hne⟩ := st
    exact ⟨⟨old, k e (by simp) _ he⟩, hi.at fun o q => k it (by simp) o q, hne⟩
  case item =>
    intro X hP hw hK hcalm i pins s sg H E I hf st hg
    subst hP hw hK
    obtain ⟨⟨old, he⟩, hit, hne⟩ := st
    obtain ⟨xs, x, hq, hx⟩ := hg
    obtain ⟨its, rv, p, hz⟩ := I.tuple hq
    have pT : s.heap.IsTuple a its.toArray := p
    have hae : a ≠ e := by
      rintro rfl
      obtain ⟨o, ho, hc, _⟩ := p
      rw [he] at ho
      cases ho
      injection hc with hc
      exact absurd hc (by decide)
    have hai : a ≠ it := by
      rintro rfl
      obtain ⟨o, ho, hc, _⟩ := p
      obtain ⟨o', ho', hc', _⟩ := hit
      rw [ho'] at ho; cases ho
      rw [hc] at hc'
      injection hc' with hc'
      exact absurd hc' (by decide)
    obtain ⟨u, hu, ru⟩ := rv.get hx
    have hel : e < s.heap.objs.size := Heap.lt_size he
    have hil : it < s.heap.objs.size := by obtain ⟨_, q, _⟩ := hit; exact Heap.lt_size q
    have hlt : i < its.toArray.size := by simpa using (List.getElem?_eq_some_iff.mp hu).1
    have DD := Draws.tuple (prog := X.prog) (w := X.w) (A := X.A.in1) (I.ok.hd hcalm) it a hai its.toArray
    refine wpAny_pyNext_enum_itemD DD he ⟨hit, pT⟩ hlt hne (by simp [hne, Ne.symm hae]) fun y h' tk hy ho hst hT hsz hk => ?_
    have ey : y = u := by
      have h1 : its[i]? = some y := by simpa using hy
      rw [hu] at h1
      exact (Option.some.inj h1).symm
    subst ey
    refine ⟨_, rfl, wpAny_letOwnedTupleGo_enum (s := { s with heap := h', toks := tk + 1 }) ho fun h2 he2 sb => ?_⟩
    have hT2 : h2.get? s.heap.objs.size = some { cls := .type "tuple", data := .seq #[.int i tk, y] } := (sb.2 _ (Nat.ne_of_gt hel)).trans hT
    have new : ObjOk X.prog X.w (upd H s.heap.objs.size (.tup [.int (i : Nat), x])) h2 s.heap.objs.size (.tup [.int (i : Nat), x]) :=
      ⟨by show 2 ≤ sizeLine; decide, [.int i tk, y], .cons ⟨_, rfl⟩ (.cons ru .nil), ⟨_, hT2, rfl, _, rfl⟩⟩
    have I1 : Inv X pins sg (upd H s.heap.objs.size (.tup [.int (i : Nat), x])) { s with heap := h2, toks := tk + 1 } :=
      I.turnedNew (ch := [e, it]) (fun b ob hb q => (sb.2 b (fun z => hb (by simp [z]))).trans (hk b ob (fun z => hb (by simp [z])) (fun z => hb (by simp [z])) q)) hf (Nat.le_refl _) new
    refine ⟨.ref s.heap.objs.size, _, I1, rfl, ⟨_, x, rfl, I.hok.fresh (Nat.le_refl _), rfl, fun ys hy => by rw [I.tuple_inj hy hq]; exact hx⟩, ⟨⟨y, ?_⟩, hst.1.at fun o q => (sb.2 it (Ne.symm hne)).trans q, hne⟩, fun b hb => ?_⟩
    · have e1 : ((i + 1 : Nat) : Int) = (i : Int) + 1 := by omega
      rw [e1]
      exact he2
    · have hb' : b < s.heap.objs.size := by
        rcases (by simpa using hb : b = e ∨ b = it) with z | z
        · rw [z]; exact hel
        · rw [z]; exact hil
      rw [upd_ne (Nat.ne_of_lt hb')]
      exact (hf b hb).1
  case done =>
    intro X hP hw hK hcalm i pins s sg H E I hf st hg
    subst hP hw hK
    obtain ⟨⟨old, he⟩, hit, hne⟩ := st
    obtain ⟨xs, hq, hx⟩ := hg
    obtain ⟨its, rv, p, hz⟩ := I.tuple hq
    obtain ⟨f0, f1, f2, f3, f4, f5⟩ := hf it (by simp)
    have hl := rv.length
    have pT : s.heap.IsTuple a its.toArray := p
    have hT : s.TypeIs (.ref e) "enumerate" := ⟨_, he, rfl⟩
    unfold pyNext
    refine wpAny_bind (wpAny_attempt (wpAny_callSpecial?_slot (name := Str.ofString "__next__") hT F.slot_enumerate_next (wpAny_call_entry F.slot_enumerate_next hT F.entry_enumerate_next ?_ (F.args_enumerate_next_1 _))))
    show wpAny _ _ (field (.ref e) 2 >>= _) _ _ _
    refine wpAny_bind (wpAny_field he rfl (x := .ref it) rfl ?_)
    refine wpAny_bind (wpAny_nextOf_tuple_end (I.ok.hd hcalm) hit pT (by simp; omega) fun h' x he' hx' => ?_)
    obtain ⟨o, ho, hc⟩ := hx'
    refine wpAny_bind (wpAny_isInstance (T := "StopIteration") (b := true) ⟨o, ho, hc⟩ isSubtype_stop ?_)
    exact wpAny_pure ⟨rfl, I.turned (t' := s.toks) (fun b o hb q => he' b o hb q) f0 f1 f3 f4 f5⟩
  case self =>
    intro A i s Q E st h
    obtain ⟨⟨_, he⟩, _⟩ := st
    exact wpAny_pyIter_enum he h
def iEnumT (K : Fr) (ta : TA) : TI := fun sg H R => ta sg H fun vs H1 => ∃ a xs, vs = [.ref a] ∧ SqT K H1 a xs ∧ R (IteT K a) H1
theorem pi_enumT {X : Cx} {e : Expr} {ta : TA} {p pos tpos : Pos} {elts : List Expr} {kk : Nat} (hg : Gl X "enumerate") (hm : X.mg "enumerate" = none) (ha : PA X [e] ta) (hs : starEach [e] X.env = [(false, eval e X.env)] := by rfl) :
    PI X (.Tuple elts kk tpos) (.Call (.Name "enumerate" p) [e] [] pos) (iEnumT X.K ta) := by
  constructor
  intro pins s sg H R I h
  refine Call_ (ld_blt I hg hm boot_enumerate (PyProof.Rows.callWith_type1 (thn (ha.run pos pins s sg H _ I h) fun us s1 q => ?_) hs rfl))
  obtain ⟨vs, H1, I1, r1, a, xs, ex, hq, q⟩ := q
  subst ex
  obtain ⟨u, rfl, ru⟩ : ∃ u, us = [u] ∧ RelV (.ref a) u := by
    cases r1 with
    | cons r t => cases t; exact ⟨_, rfl, r⟩
  cases ru
  obtain ⟨its, rv, p', hz⟩ := I1.tuple hq
  refine call_enum_tup p' fun h' he hit hk => wpAny_pyIter_enum he ?_
  have I2 : Inv X pins sg H1 { s1 with heap := h' } := I1.kept (t' := s1.toks) hk
  refine ⟨s1.heap.objs.size + 1, [s1.heap.objs.size + 1, s1.heap.objs.size], _, _, H1, rfl, I2, turn_enumT a (s1.heap.objs.size + 1) s1.heap.objs.size, ⟨⟨.none, he⟩, hit, Nat.succ_ne_self _⟩, fun b hb => ?_, q⟩
  have hle : s1.heap.objs.size ≤ b := by
    rcases (by simpa using hb : b = s1.heap.objs.size + 1 ∨ b = s1.heap.objs.size) with z | z
    · rw [z]; exact Nat.le_add_right _ _
    · rw [z]; exact Nat.le_refl _
  exact I1.fpOk hle (I1.hok.fresh hle)
end MP
set_option Elab.async false
set_option linter.all false
set_option maxRecDepth 100000
set_option autoImplicit false
namespace MP
open PySem PySem.Spec PyProof.Rows L2

/-! ### what stays, in the weakest form -/
structure Sub (H : Hp) (al : Al) (H1 : Hp) (al1 : Al) : Prop where
  rd : ∀ p u, Rd H p u → p ∉ al → Rd H1 p u ∧ p ∉ al1
  tup : ∀ q vs, H q = some (.tup vs) → H1 q = some (.tup vs)
  objs : ∀ (i : Nat) a, al.objs[i]? = some a → al1.objs[i]? = some a
theorem Sub.refl (H : Hp) (al : Al) : Sub H al H al := ⟨fun _ _ h k => ⟨h, k⟩, fun _ _ h => h, fun _ _ h => h⟩
theorem Sub.trans {H H1 H2 : Hp} {al al1 al2 : Al} (a : Sub H al H1 al1) (b : Sub H1 al1 H2 al2) : Sub H al H2 al2 :=
  ⟨fun p u h k => let ⟨h1, k1⟩ := a.rd p u h k; b.rd p u h1 k1, fun q vs h => b.tup q vs (a.tup q vs h), fun i x h => b.objs i x (a.objs i x h)⟩
theorem Ext0.sub {H H1 : Hp} {al al1 : Al} (x : Ext0 H al H1 al1) : Sub H al H1 al1 :=
  ⟨fun p u h k => x.rd h k, x.tup, fun i a h => by
    obtain ⟨be, e, _⟩ := x.more
    rw [e, List.getElem?_append_left (List.getElem?_eq_some_iff.mp h).1]
    exact h⟩
theorem sub_take {H : Hp} {al : Al} {G : Addr} {o : HO} (hp : H G = none) : Sub H al (upd H G o) (al.take G) := by
  refine ⟨fun p u h k => ?_, fun q vs h => ext0_take hp _ _ h, fun i a h => h⟩
  have hne : p ≠ G := by
    rintro rfl
    rcases h with h | ⟨_, h⟩ <;> (rw [hp] at h; cases h)
  refine ⟨?_, fun z => ?_⟩
  · rcases h with h | ⟨ob, h⟩
    · exact .inl (ext0_take hp _ _ h)
    · exact .inr ⟨ob, ext0_take hp _ _ h⟩
  · rcases z with z | z
    · exact k (.inl z)
    · rcases List.mem_cons.mp z with z | z
      · exact hne z
      · exact k (.inr z)
/-- .. and what is locked stays so -/
structure SubF (H : Hp) (al : Al) (H1 : Hp) (al1 : Al) : Prop extends Sub H al H1 al1 where
  frz : ∀ q ob u, H q = some (.frz ob u) → H1 q = some (.frz ob u)
theorem SubF.trans {H H1 H2 : Hp} {al al1 al2 : Al} (a : SubF H al H1 al1) (b : SubF H1 al1 H2 al2) : SubF H al H2 al2 := ⟨a.toSub.trans b.toSub, fun q ob u h => b.frz q ob u (a.frz q ob u h)⟩
theorem Ext0.subF {H H1 : Hp} {al al1 : Al} (x : Ext0 H al H1 al1) : SubF H al H1 al1 := ⟨x.sub, x.frz⟩
theorem subF_take {H : Hp} {al : Al} {G : Addr} {o : HO} (hp : H G = none) : SubF H al (upd H G o) (al.take G) := ⟨sub_take hp, fun q ob u h => ext0_take hp _ _ h⟩
mutual
theorem RepV.sub {K : Fr} {H H1 : Hp} {al al1 : Al} (x : Sub H al H1 al1) : ∀ (d : D) (v : V), RepV K H al d v → RepV K H1 al1 d v
  | .non, v, h => by simpa only [RepV] using h
  | .bl b, v, h => by simpa only [RepV] using h
  | .int i, v, h => by simpa only [RepV] using h
  | .str s, v, h => by simpa only [RepV] using h
  | .tup l, v, h => by
    simp only [RepV] at h ⊢
    obtain ⟨p, vs, e, h1, h2⟩ := h
    exact ⟨p, vs, e, x.tup p vs h1, RepVs.sub x l vs h2⟩
  | .lst l, v, h => by
    simp only [RepV] at h ⊢
    obtain ⟨p, vs, e, h1, h2⟩ := h
    refine ⟨p, vs, e, ?_, RepVs.sub x l vs h2⟩
    rcases h1 with ⟨h1, hn⟩ | h1
    · exact .inl (x.rd p _ h1 hn)
    · exact .inr h1
  | .dct tk ks l, v, h => by
    simp only [RepV] at h ⊢
    obtain ⟨p, u, us, e, hn, h1, h2, h3⟩ := h
    exact ⟨p, u, us, e, (x.rd p _ h1 hn).2, (x.rd p _ h1 hn).1, h2, RepVs.sub x l us h3⟩
  | .obj i, v, h => by
    simp only [RepV] at h ⊢
    obtain ⟨a, h1, h2⟩ := h
    exact ⟨a, x.objs i a h1, h2⟩
  | .opq, _, _ => by simp only [RepV]
theorem RepVs.sub {K : Fr} {H H1 : Hp} {al al1 : Al} (x : Sub H al H1 al1) : ∀ (l : List D) (vs : List V), RepVs K H al l vs → RepVs K H1 al1 l vs
  | [], vs, h => by simpa only [RepVs] using h
  | d :: r, vs, h => by
    simp only [RepVs] at h ⊢
    obtain ⟨v, us, e, h1, h2⟩ := h
    exact ⟨v, us, e, RepV.sub x d v h1, RepVs.sub x r us h2⟩
end
theorem RepL.sub {K : Fr} {H H1 : Hp} {al al1 : Al} {r : Env} {sg : L2.St} (l : RepL K H al r sg) (x : Sub H al H1 al1) : RepL K H1 al1 r sg :=
  ⟨l.1, fun i d e => let ⟨v, h1, h2⟩ := l.2 i d e; ⟨v, h1, RepV.sub x d v h2⟩⟩

/-! ### walks -/
/-- the i-th item of the walk J, at the heap H -/
structure Wit (K : Fr) (J : L2.It) (i : Nat) (H : Hp) (al : Al) (o : Option D) : Prop where
  go : ∀ d, o = some d → J.go i H ∧ ∀ y H', J.yld i H y H' → Ext H al H' al ∧ (∀ M, RepM K H al M → RepM K H' al M) ∧ RepV K H' al d y
  stop : o = none → J.stop i H
def itemAt (sq : Sq) (i : Nat) (M : Mem) : Option D :=
  match sq with
  | .vals ds => ds[i]?
  | .live o => (match M[o]? with
    | some (.lst l) => l[i]?
    | _ => none)
  | .keys _ => none
def sqOk (sq : Sq) (M : Mem) : Prop :=
  match sq with
  | .vals _ => True
  | .live o => ∃ l, M[o]? = some (.lst l)
  | .keys _ => False
/-- J walks sq from the heap H on -/
def Wk (K : Fr) (H : Hp) (al : Al) (sq : Sq) (J : L2.It) : Prop :=
  ∀ H1 al1 M1, SubF H al H1 al1 → RepM K H1 al1 M1 → sqOk sq M1 → ∀ i, Wit K J i H1 al1 (itemAt sq i M1)
theorem wit_same {K : Fr} {J : L2.It} {i : Nat} {H : Hp} {al : Al} {o : Option D} (h1 : ∀ d, o = some d → J.go i H ∧ ∀ y H', J.yld i H y H' → H' = H ∧ RepV K H al d y) (h2 : o = none → J.stop i H) : Wit K J i H al o :=
  ⟨fun d e => ⟨(h1 d e).1, fun y H' q => by
    obtain ⟨rfl, r⟩ := (h1 d e).2 y H' q
    exact ⟨Ext.refl _ _, fun M m => m, r⟩⟩, h2⟩
theorem wit_seq {K : Fr} {i : Nat} {H : Hp} {al : Al} {a : Addr} {ds : List D} {vs : List V} {S : Hp → Addr → List V → Prop} {J : L2.It} (hs : S H a vs) (r : RepVs K H al ds vs)
    (hg : ∀ x, vs[i]? = some x → J.go i H) (hy : ∀ y H', J.yld i H y H' → H' = H ∧ ∀ xs, S H a xs → xs[i]? = some y) (hst : vs.length ≤ i → J.stop i H) : Wit K J i H al ds[i]? := by
  refine wit_same (fun d e => ?_) fun e => ?_
  · obtain ⟨v, h1, h2⟩ := r.get e
    refine ⟨hg v h1, fun y H' q => ?_⟩
    obtain ⟨rfl, q⟩ := hy y H' q
    have := q vs hs
    rw [h1] at this
    cases this
    exact ⟨rfl, h2⟩
  · refine hst ?_
    rw [r.length]
    exact List.getElem?_eq_none_iff.mp e
theorem wk_tup {K : Fr} {H : Hp} {al : Al} {a : Addr} {ds : List D} {vs : List V} (h : H a = some (.tup vs)) (r : RepVs K H al ds vs) : Wk K H al (.vals ds) (Itt K a) := by
  intro H1 al1 M1 x m _ i
  have h1 : SqT K H1 a vs := .inl (.inl (x.tup a vs h))
  exact wit_seq (S := SqT K) h1 (RepVs.sub x.toSub _ _ r) (fun v e => ⟨vs, v, h1, e⟩) (fun y H' q => q) fun hl => ⟨vs, h1, hl⟩
theorem wk_lst {K : Fr} {H : Hp} {al : Al} {a : Addr} {ds : List D} {vs : List V} (h : SL K H al a vs) (r : RepVs K H al ds vs) : Wk K H al (.vals ds) (Itl K a) := by
  intro H1 al1 M1 x m _ i
  have h1 : SqL K H1 a vs := by
    rcases h with ⟨h, hn⟩ | h
    · exact .inl (x.rd a _ h hn).1
    · exact .inr h
  exact wit_seq (S := SqL K) h1 (RepVs.sub x.toSub _ _ r) (fun v e => ⟨vs, v, h1, e⟩) (fun y H' q => q) fun hl => ⟨vs, h1, hl⟩
theorem wk_live {K : Fr} {H : Hp} {al : Al} {a : Addr} {o : Nat} (h : al.objs[o]? = some a) : Wk K H al (.live o) (Itl K a) := by
  intro H1 al1 M1 x m hs i
  obtain ⟨l, hl⟩ := hs
  obtain ⟨b, e, r⟩ := m.at_ o _ hl
  rw [x.objs o a h] at e
  cases e
  obtain ⟨vs, h1, r⟩ := r
  have h2 : SqL K H1 a vs := .inl (.inl h1)
  have e2 : itemAt (.live o) i M1 = l[i]? := by simp only [itemAt, hl]
  rw [e2]
  exact wit_seq (S := SqL K) h2 r (fun v e => ⟨vs, v, h2, e⟩) (fun y H' q => q) fun hz => ⟨vs, h2, hz⟩
theorem wk_str {K : Fr} {H : Hp} {al : Al} {s : List Nat} (ok : PyData.strOk ⟨s.toArray⟩ = true) : Wk K H al (.vals (s.map fun c => .str [c])) (Its ⟨s.toArray⟩) := by
  intro H1 al1 M1 x m _ i
  refine wit_same (fun d e => ?_) fun e => ?_
  · simp only [itemAt, List.getElem?_map, Option.map_eq_some_iff] at e
    obtain ⟨c, hc, rfl⟩ := e
    have hlt : i < s.length := (List.getElem?_eq_some_iff.mp hc).1
    refine ⟨by show i < s.toArray.size; simpa using hlt, fun y H' q => ?_⟩
    obtain ⟨rfl, c', hc', rfl⟩ := q
    have : s[i]? = some c' := by simpa using hc'
    rw [hc] at this
    cases this
    refine ⟨rfl, ?_⟩
    have ok1 : PyData.strOk ⟨#[c]⟩ = true := by
      have := (strOk_iff s).mp ok c (List.mem_of_getElem? hc)
      exact (strOk_iff [c]).mpr (by simpa using this)
    exact RepV.mkStr (s := [c]) ok1
  · simp only [itemAt, List.getElem?_map, Option.map_eq_none_iff] at e
    show s.toArray.size ≤ i
    simpa using e
theorem wk_range {K : Fr} {H : Hp} {al : Al} (a b : Int) : Wk K H al (.vals (intRange a b)) (Itr a (b - a).toNat) := by
  intro H1 al1 M1 x m _ i
  refine wit_same (fun d e => ?_) fun e => ?_
  · simp only [itemAt, intRange, List.getElem?_map, Option.map_eq_some_iff] at e
    obtain ⟨n, hn, rfl⟩ := e
    obtain ⟨hlt, e1⟩ := List.getElem?_eq_some_iff.mp hn
    simp only [List.length_range] at hlt
    simp only [List.getElem_range] at e1
    subst e1
    refine ⟨hlt, fun y H' q => ?_⟩
    obtain ⟨rfl, rfl⟩ := q
    exact ⟨rfl, RepV.mkInt _⟩
  · simp only [itemAt, intRange, List.getElem?_map, Option.map_eq_none_iff] at e
    have := List.getElem?_eq_none_iff.mp e
    show (b - a).toNat ≤ i
    simpa using this
theorem enum_get : ∀ (l : List D) (n i : Nat), (enumFrom n l)[i]? = l[i]?.map fun d => .tup [.int ((n + i : Nat) : Int), d]
  | [], n, i => by simp [enumFrom]
  | d :: r, n, 0 => by simp [enumFrom]
  | d :: r, n, i + 1 => by
    simp only [enumFrom, List.getElem?_cons_succ]
    rw [enum_get r (n + 1) i]
    have : n + 1 + i = n + (i + 1) := by omega
    rw [this]
theorem wit_enum {K : Fr} {i : Nat} {H : Hp} {al : Al} {a : Addr} {ds : List D} {vs : List V} {M : Mem} {S : Hp → Addr → List V → Prop} {J : L2.It} (m : RepM K H al M) (hs : S H a vs) (r : RepVs K H al ds vs)
    (hg : ∀ x, vs[i]? = some x → J.go i H) (hy : ∀ y H', J.yld i H y H' → ∃ T x, y = .ref T ∧ H T = none ∧ H' = upd H T (.tup [.int (i : Nat), x]) ∧ ∀ xs, S H a xs → xs[i]? = some x) (hst : vs.length ≤ i → J.stop i H) : Wit K J i H al (enumFrom 0 ds)[i]? := by
  rw [enum_get ds 0 i]
  refine ⟨fun d e => ?_, fun e => ?_⟩
  · simp only [Option.map_eq_some_iff] at e
    obtain ⟨d', hd, rfl⟩ := e
    obtain ⟨v, h1, h2⟩ := r.get hd
    refine ⟨hg v h1, fun y H' q => ?_⟩
    obtain ⟨T, x, rfl, hT, rfl, q2⟩ := hy y H' q
    have := q2 vs hs
    rw [h1] at this
    cases this
    have x : Ext H al (upd H T (.tup [.int (i : Nat), v])) al := ext_new hT (m.fresh hT)
    refine ⟨x, fun M m => m.new hT, ?_⟩
    simp only [RepV]
    refine ⟨T, _, rfl, upd_same, RepVs.cons ?_ (RepVs.one (RepV.ext x _ _ h2))⟩
    rw [Nat.zero_add]
    exact RepV.mkInt _
  · simp only [Option.map_eq_none_iff] at e
    refine hst ?_
    rw [r.length]
    exact List.getElem?_eq_none_iff.mp e
theorem wk_enumT {K : Fr} {H : Hp} {al : Al} {a : Addr} {ds : List D} {vs : List V} (h : H a = some (.tup vs)) (r : RepVs K H al ds vs) : Wk K H al (.vals (enumFrom 0 ds)) (IteT K a) := by
  intro H1 al1 M1 x m _ i
  have h1 : SqT K H1 a vs := .inl (.inl (x.tup a vs h))
  exact wit_enum (S := SqT K) m h1 (RepVs.sub x.toSub _ _ r) (fun v e => ⟨vs, v, h1, e⟩) (fun y H' q => q) fun hl => ⟨vs, h1, hl⟩
theorem wk_enumL {K : Fr} {H : Hp} {al : Al} {a : Addr} {ds : List D} {vs : List V} (h : SL K H al a vs) (r : RepVs K H al ds vs) : Wk K H al (.vals (enumFrom 0 ds)) (Ite K a) := by
  intro H1 al1 M1 x m _ i
  have h1 : SqL K H1 a vs := by
    rcases h with ⟨h, hn⟩ | h
    · exact .inl (x.rd a _ h hn).1
    · exact .inr h
  exact wit_enum (S := SqL K) m h1 (RepVs.sub x.toSub _ _ r) (fun v e => ⟨vs, v, h1, e⟩) (fun y H' q => q) fun hl => ⟨vs, h1, hl⟩

/-! ### what is walked -/
def FinI (K : Fr) (H : Hp) (al : Al) (r : R Sq) (Q : L2.It → Hp → Prop) : Prop :=
  match r with
  | .ok sq M => ∀ al1 H1 J, Ext H al H1 al1 → RepM K H1 al1 M → Wk K H1 al1 sq J → Q J H1
  | .stop => False
def tIt (K : Fr) (f : Env → Mem → R Sq) : TI := fun sg H Q => ∃ al r M, RepM K H al M ∧ RepL K H al r sg ∧ FinI K H al (f r M) Q
abbrev SI (X : Cx) (cf : CF) (tg e : Expr) (it : It) : Prop := PI X tg e (tIt X.K fun r M => evIt cf it r M)
section
variable {X : Cx} {cf : CF} {e a b tg : Expr} {x y : Ex} {pos p tpos : Pos}
theorem si_seq (ha : SE X cf e x) : SI X cf tg e (.seq x) := by
  constructor
  intro pins s sg H R I h
  obtain ⟨al, r, M, m, l, hf⟩ := h
  simp only [evIt] at hf
  cases e1 : ev cf x r M with
  | stop => rw [e1] at hf; exact hf.elim
  | ok d M1 =>
    rw [e1] at hf
    simp only at hf
    cases d with
    | tup ds =>
      refine (pi_tup ha).run pins s sg H R I (tEv_ok m l e1 fun al1 v H1 x1 m1 l1 r1 => ?_)
      simp only [RepV] at r1
      obtain ⟨q, vs, rfl, hp, rs⟩ := r1
      exact ⟨q, rfl, ⟨vs, .inl (.inl hp)⟩, hf al1 H1 _ x1 m1 (wk_tup hp rs)⟩
    | lst ds =>
      refine (pi_list ha).run pins s sg H R I (tEv_ok m l e1 fun al1 v H1 x1 m1 l1 r1 => ?_)
      simp only [RepV] at r1
      obtain ⟨q, vs, rfl, hp, rs⟩ := r1
      exact ⟨q, rfl, ⟨vs, hp.seq⟩, hf al1 H1 _ x1 m1 (wk_lst hp rs)⟩
    | str z =>
      refine (pi_str ha).run pins s sg H R I (tEv_ok m l e1 fun al1 v H1 x1 m1 l1 r1 => ?_)
      simp only [RepV] at r1
      obtain ⟨rfl, ok⟩ := r1
      exact ⟨_, rfl, hf al1 H1 _ x1 m1 (wk_str ok)⟩
    | obj i =>
      simp only [seqOf] at hf
      cases ho : M1[i]? with
      | none => rw [ho] at hf; exact hf.elim
      | some ob =>
        rw [ho] at hf
        cases ob with
        | dct _ _ _ => exact hf.elim
        | lst ls =>
          refine (pi_list ha).run pins s sg H R I (tEv_ok m l e1 fun al1 v H1 x1 m1 l1 r1 => ?_)
          obtain ⟨q, vs, rfl, hi, hp, rs⟩ := listM m1 r1 ho
          exact ⟨q, rfl, ⟨vs, .inl (.inl hp)⟩, hf al1 H1 _ x1 m1 (wk_live hi)⟩
    | _ => exact hf.elim
theorem si_range1 (hm : X.mg "range" = none) (ha : SE X cf a x) (hg : Gl X "range" := by rfl) (hs : starEach [a] X.env = [(false, eval a X.env)] := by rfl) (he : starEach [a] X.env = (false, eval a X.env) :: starEach [] X.env := by rfl) :
    SI X cf tg (.Call (.Name "range" p) [a] [] pos) (.range1 x) := by
  constructor
  intro pins s sg H R I h
  obtain ⟨al, r, M, m, l, hf⟩ := h
  simp only [evIt] at hf
  cases e1 : ev cf x r M with
  | stop => rw [e1] at hf; exact hf.elim
  | ok d M1 =>
    rw [e1] at hf
    cases d with
    | int j =>
      simp only at hf
      split at hf
      · rename_i hj
        simp only [small62, decide_eq_true_eq] at hj
        refine (pi_range1 hg hm (pa_cons ha pa_nil he) hs).run pins s sg H R I (tEv_ok m l e1 fun al1 v H1 x1 m1 l1 r1 => ?_)
        simp only [RepV] at r1
        subst r1
        refine ⟨j, rfl, hj.1, hj.2, hf al1 H1 _ x1 m1 ?_⟩
        have := wk_range (K := X.K) (H := H1) (al := al1) 0 j
        rw [Int.sub_zero] at this
        exact this
      · exact hf.elim
    | _ => exact hf.elim
theorem si_range2 (hm : X.mg "range" = none) (ha : SE X cf a x) (hb : SE X cf b y) (hg : Gl X "range" := by rfl) (hs : starEach [a, b] X.env = [(false, eval a X.env), (false, eval b X.env)] := by rfl) (hs2 : starEach [b] X.env = [(false, eval b X.env)] := by rfl)
    (he : starEach [a, b] X.env = (false, eval a X.env) :: starEach [b] X.env := by rfl) (he2 : starEach [b] X.env = (false, eval b X.env) :: starEach [] X.env := by rfl) :
    SI X cf tg (.Call (.Name "range" p) [a, b] [] pos) (.range2 x y) := by
  constructor
  intro pins s sg H R I h
  obtain ⟨al, r, M, m, l, hf⟩ := h
  simp only [evIt] at hf
  cases e1 : ev cf x r M with
  | stop => rw [e1] at hf; exact hf.elim
  | ok d M1 =>
    rw [e1] at hf
    cases d with
    | int i =>
      simp only at hf
      cases e2 : ev cf y r M1 with
      | stop => rw [e2] at hf; exact hf.elim
      | ok d2 M2 =>
        rw [e2] at hf
        cases d2 with
        | int j =>
          simp only at hf
          split at hf
          · rename_i hj
            simp only [small62, Bool.and_eq_true, decide_eq_true_eq] at hj
            refine (pi_range2 hg hm (pa_cons ha (pa_cons hb pa_nil he2) he) hs hs2).run pins s sg H R I (tEv_ok m l e1 fun al1 v H1 x1 m1 l1 r1 => tEv_ok m1 l1 e2 fun al2 w H2 x2 m2 l2 r2 => ?_)
            simp only [RepV] at r1 r2
            subst r1 r2
            exact ⟨i, j, rfl, ⟨hj.1.1, hj.1.2, hj.2.1, hj.2.2⟩, hf al2 H2 _ (x1.trans x2) m2 (wk_range i j)⟩
          · exact hf.elim
        | _ => exact hf.elim
    | _ => exact hf.elim
theorem si_enum {elts : List Expr} {kk : Nat} (hm : X.mg "enumerate" = none) (ha : SE X cf a x) (hg : Gl X "enumerate" := by rfl) (hs : starEach [a] X.env = [(false, eval a X.env)] := by rfl) (he : starEach [a] X.env = (false, eval a X.env) :: starEach [] X.env := by rfl) :
    SI X cf (.Tuple elts kk tpos) (.Call (.Name "enumerate" p) [a] [] pos) (.enum x) := by
  constructor
  intro pins s sg H R I h
  obtain ⟨al, r, M, m, l, hf⟩ := h
  simp only [evIt] at hf
  cases e1 : ev cf x r M with
  | stop => rw [e1] at hf; exact hf.elim
  | ok d M1 =>
    rw [e1] at hf
    cases d with
    | tup ds =>
      refine (pi_enumT hg hm (pa_cons ha pa_nil he) hs).run pins s sg H R I (tEv_ok m l e1 fun al1 v H1 x1 m1 l1 r1 => ?_)
      simp only [RepV] at r1
      obtain ⟨q, vs, rfl, hp, rs⟩ := r1
      exact ⟨q, vs, rfl, .inl (.inl hp), hf al1 H1 _ x1 m1 (wk_enumT hp rs)⟩
    | lst ds =>
      refine (pi_enum hg hm (pa_cons ha pa_nil he) hs).run pins s sg H R I (tEv_ok m l e1 fun al1 v H1 x1 m1 l1 r1 => ?_)
      simp only [RepV] at r1
      obtain ⟨q, vs, rfl, hp, rs⟩ := r1
      exact ⟨q, vs, rfl, hp.seq, hf al1 H1 _ x1 m1 (wk_enumL hp rs)⟩
    | _ => exact hf.elim
end

/-! ### targets -/
def tgIs : Tg → List Nat
  | .v i => [i]
  | .tup l => l
def TgOk (K : Fr) (t : Tg) (g : L2.TG) : Prop := ∀ H al d v r r1 sg (Q : L2.St → Hp → Prop), RepV K H al d v → RepL K H al r sg → tgt t d r = some r1 →
  (∀ sg1, RepL K H al r1 sg1 → (∀ j, j ∉ tgIs t → sg1[j]? = sg[j]?) → sg1.length = sg.length → Q sg1 H) → g v sg H Q
structure TgR (X : Cx) (tg : Expr) (t : Tg) (g : L2.TG) : Prop where
  pg : PG X tg g
  ok : TgOk X.K t g
theorem tgOk_v {K : Fr} (i : Nat) : TgOk K (.v i) (gName i) := by
  intro H al d v r r1 sg Q rv l e h
  simp only [tgt, Option.some.injEq] at e
  subst e
  refine h _ (l.set i rv) (fun j hj => ?_) (by simp)
  rw [List.getElem?_set_ne (fun z => hj (by simp [tgIs, z]))]
def gNames : List Nat → TGs
  | [] => gNil
  | i :: r => gCons (gName i) (gNames r)
theorem gNames_ok {K : Fr} {H : Hp} {al : Al} : ∀ (is : List Nat) (ds : List D) (vs : List V) (r : Env) (sg : L2.St) (Q : L2.St → Hp → Prop), is.length = ds.length → RepVs K H al ds vs → RepL K H al r sg →
    (∀ sg1, RepL K H al ((is.zip ds).foldl (fun r p => r.set p.1 (some p.2)) r) sg1 → (∀ j, j ∉ is → sg1[j]? = sg[j]?) → sg1.length = sg.length → Q sg1 H) → gNames is vs sg H Q
  | [], [], vs, r, sg, Q, _, rs, l, h => by
    simp only [RepVs] at rs
    exact ⟨rs, h sg l (fun _ _ => rfl) rfl⟩
  | [], _ :: _, _, _, _, _, e, _, _, _ => by simp at e
  | _ :: _, [], _, _, _, _, e, _, _, _ => by simp at e
  | i :: is, d :: ds, vs, r, sg, Q, e, rs, l, h => by
    simp only [RepVs] at rs
    obtain ⟨v, us, rfl, r1, r2⟩ := rs
    refine ⟨v, us, rfl, ?_⟩
    refine gNames_ok is ds us (r.set i (some d)) (sg.set i (some v)) Q (by simpa using e) r2 (l.set i r1) fun sg1 l1 h1 h2 => h sg1 l1 (fun j hj => ?_) (by simpa using h2)
    simp only [List.mem_cons, not_or] at hj
    rw [h1 j hj.2, List.getElem?_set_ne (Ne.symm hj.1)]
theorem tgOk_tup {K : Fr} (is : List Nat) : TgOk K (.tup is) (gTup K is.length (gNames is)) := by
  intro H al d v r r1 sg Q rv l e h
  cases d with
  | tup ds =>
    simp only [tgt] at e
    split at e
    · rename_i hl
      cases e
      simp only [RepV] at rv
      obtain ⟨p, vs, rfl, hp, rs⟩ := rv
      exact ⟨p, vs, rfl, .inl (.inl hp), by rw [rs.length, hl], gNames_ok is ds vs r sg Q hl rs l h⟩
    · cases e
  | _ => simp [tgt] at e
section
variable {X : Cx} {pos p : Pos}
theorem tg_v (i : Nat) {n : Str} (hN : X.N.Nodup) (hi : X.N[i]? = some n := by rfl) (hx : Loc X.env.scope n := by first | exact Or.inl rfl | exact Or.inr rfl) (hf : X.fn n = true ∨ X.env.scope.names.lookup n = some .local := by first | exact .inl rfl | exact .inr rfl) :
    TgR X (.Name n pos) (.v i) (gName i) := ⟨pg_name hN hi hx hf, tgOk_v i⟩
theorem tg_tup {es : List Expr} {k : Nat} {is : List Nat} (hc : X.calm = true) (h : PGs X es (gNames is)) (hn : (assignEach es X.env).length = is.length := by rfl) (hst : (assignEach es X.env).findIdx? (·.1) = none := by rfl) :
    TgR X (.Tuple es k pos) (.tup is) (gTup X.K is.length (gNames is)) := ⟨pg_tup hc h hn hst, tgOk_tup is⟩
end
end MP
set_option Elab.async false
set_option linter.all false
set_option maxRecDepth 100000
set_option autoImplicit false
namespace MP
open PySem PySem.Spec PyProof.Rows L2

abbrev SS (X : Cx) (cf : CF) (s : Stmt) (c : St) : Prop := PS X s (tEs X.K fun r M => evS cf c r M)
abbrev SSs (X : Cx) (cf : CF) (s : List Stmt) (c : List St) : Prop := PSs X s (tEs X.K fun r M => evSs cf c r M)

section
variable {X : Cx} {cf : CF} {e o k a b tg : Expr} {x y z : Ex} {pos p tpos : Pos} {s : Stmt} {ss : List Stmt} {c : St} {cs : List St}
theorem ss_nil : SSs X cf [] [] := pss_nil.imp fun D sg H h => by
  obtain ⟨al, r, M, m, l, hf⟩ := h
  exact hf al sg H (Ext.refl _ _) m l
theorem ss_cons (h1 : SS X cf s c) (h2 : SSs X cf ss cs) : SSs X cf (s :: ss) (c :: cs) := (pss_cons h1 h2).imp fun D sg H h => by
  obtain ⟨al, r, M, m, l, hf⟩ := h
  refine ⟨al, r, M, m, l, ?_⟩
  simp only [evSs] at hf
  simp only
  cases e : evS cf c r M with
  | nx r1 M1 =>
    rw [e] at hf
    exact fun al1 sg1 H1 x1 m1 l1 => ⟨al1, r1, M1, m1, l1, hf.ext x1⟩
  | rt d M1 => rw [e] at hf; exact hf
  | bk r1 M1 => rw [e] at hf; exact hf
  | ct r1 M1 => rw [e] at hf; exact hf
  | stop => rw [e] at hf; exact hf
theorem ss_set (i : Nat) {n : Str} (hN : X.N.Nodup) (he : SE X cf e x) (hi : X.N[i]? = some n := by rfl) (hx : Loc X.env.scope n := by first | exact Or.inl rfl | exact Or.inr rfl) (hs : swapsWith e (some (.Name n p)) pos.line X.env = pure false := by rfl)
    (hf : X.fn n = true ∨ X.env.scope.names.lookup n = some .local := by first | exact .inl rfl | exact .inr rfl) : SS X cf (.Assign [.Name n p] e pos) (.set i x) :=
  (ps_set hN hi hx he hs hf).imp fun D sg H h => by
    obtain ⟨al, r, M, m, l, hf⟩ := h
    simp only [evS] at hf
    cases e1 : ev cf x r M with
    | stop => rw [e1] at hf; exact hf.elim
    | ok d M1 =>
      rw [e1] at hf
      exact tEv_ok m l e1 fun al1 v H1 x1 m1 l1 r1 => hf al1 _ H1 x1 m1 (l1.set i r1)
theorem two_of {K : Fr} {H : Hp} {al : Al} {ds : List D} {vs : List V} (r : RepVs K H al ds vs) (h : ds.length = 2) : ∃ d e v w, ds = [d, e] ∧ vs = [v, w] ∧ RepV K H al d v ∧ RepV K H al e w := by
  match ds, h with
  | [d, e], _ =>
    simp only [RepVs] at r
    obtain ⟨v, us, rfl, r1, w, us2, rfl, r2, rfl⟩ := r
    exact ⟨d, e, v, w, rfl, rfl, r1, r2⟩
theorem three_of {K : Fr} {H : Hp} {al : Al} {ds : List D} {vs : List V} (r : RepVs K H al ds vs) (h : ds.length = 3) : ∃ d e f v w u, ds = [d, e, f] ∧ vs = [v, w, u] ∧ RepV K H al d v ∧ RepV K H al e w ∧ RepV K H al f u := by
  match ds, h with
  | [d, e, f], _ =>
    simp only [RepVs] at r
    obtain ⟨v, us, rfl, r1, w, us2, rfl, r2, u, us3, rfl, r3, rfl⟩ := r
    exact ⟨d, e, f, v, w, u, rfl, rfl, r1, r2, r3⟩
theorem ss_par2 (i j : Nat) {n n2 : Str} {px py pt pt2 : Pos} {kt k2 : Nat} (hc : X.calm = true) (hN : X.N.Nodup) (hij : i ≠ j) (ha : SA X cf [a, b] [x, y]) (hi : X.N[i]? = some n := by rfl) (hj : X.N[j]? = some n2 := by rfl)
    (hx : X.env.scope.names.lookup n = some .local := by rfl) (hy : X.env.scope.names.lookup n2 = some .local := by rfl)
    (hw : swappedStores [.Tuple [.Name n px, .Name n2 py] kt pt] (.Tuple [a, b] k2 pt2) X.env = pure (some [n, n2]) := by rfl)
    (hs : swapsWithSole [.Tuple [.Name n px, .Name n2 py] kt pt] (.Tuple [a, b] k2 pt2) pos.line X.env = pure false := by rfl) :
    SS X cf (.Assign [.Tuple [.Name n px, .Name n2 py] kt pt] (.Tuple [a, b] k2 pt2) pos) (.par [i, j] [x, y]) :=
  (ps_par hc hN hi hj hij hx hy ha hw hs).imp fun D sg H h => by
    obtain ⟨al, r, M, m, l, hf⟩ := h
    simp only [evS] at hf
    cases e1 : evs cf [x, y] r M with
    | stop => rw [e1] at hf; exact hf.elim
    | ok ds M1 =>
      rw [e1] at hf
      refine tEa_ok m l e1 fun al1 vs H1 x1 m1 l1 r1 => ?_
      have hl := evs_len _ _ _ _ _ e1
      obtain ⟨d, e, v, w, rfl, rfl, q1, q2⟩ := two_of r1 hl
      exact ⟨v, w, rfl, hf al1 _ H1 x1 m1 ((l1.set i q1).set j q2)⟩
theorem ss_par3 (i j q : Nat) {n n2 n3 : Str} {c0 : Expr} {px py pz pt pt2 : Pos} {kt k2 : Nat} (hc : X.calm = true) (hN : X.N.Nodup) (hij : i ≠ j) (hiq : i ≠ q) (hjq : j ≠ q) (ha : SA X cf [a, b, c0] [x, y, z])
    (hi : X.N[i]? = some n := by rfl) (hj : X.N[j]? = some n2 := by rfl) (hq : X.N[q]? = some n3 := by rfl)
    (hx : X.env.scope.names.lookup n = some .local := by rfl) (hy : X.env.scope.names.lookup n2 = some .local := by rfl) (hz : X.env.scope.names.lookup n3 = some .local := by rfl)
    (hw : swappedStores [.Tuple [.Name n px, .Name n2 py, .Name n3 pz] kt pt] (.Tuple [a, b, c0] k2 pt2) X.env = pure (some [n, n2, n3]) := by rfl)
    (hs : swapsWithSole [.Tuple [.Name n px, .Name n2 py, .Name n3 pz] kt pt] (.Tuple [a, b, c0] k2 pt2) pos.line X.env = pure false := by rfl) :
    SS X cf (.Assign [.Tuple [.Name n px, .Name n2 py, .Name n3 pz] kt pt] (.Tuple [a, b, c0] k2 pt2) pos) (.par [i, j, q] [x, y, z]) :=
  (ps_par3 hc hN hi hj hq hij hiq hjq hx hy hz ha hw hs).imp fun D sg H h => by
    obtain ⟨al, r, M, m, l, hf⟩ := h
    simp only [evS] at hf
    cases e1 : evs cf [x, y, z] r M with
    | stop => rw [e1] at hf; exact hf.elim
    | ok ds M1 =>
      rw [e1] at hf
      refine tEa_ok m l e1 fun al1 vs H1 x1 m1 l1 r1 => ?_
      have hl := evs_len _ _ _ _ _ e1
      obtain ⟨d, e, f, v, w, u, rfl, rfl, q1, q2, q3⟩ := three_of r1 hl
      exact ⟨v, w, u, rfl, hf al1 _ H1 x1 m1 (((l1.set i q1).set j q2).set q q3)⟩
theorem ss_setix (hu : X.A.units + 1 < cLine) (he : SE X cf e z) (ho : SE X cf o x) (hk : SE X cf k y)
    (ha : ∀ v, assign (.Subscript o k tpos) X.env v = (do
      let ov ← holding [v] (eval o X.env)
      let iv ← holding [v, ov] (eval k X.env)
      standAt tpos
      holding [v, ov, iv] (setItem ov iv v)
      release [v, ov, iv] []) := by intro _; rfl) (hs : swapsWithSole [.Subscript o k tpos] e pos.line X.env = pure false := by rfl) (hw : swappedStores [.Subscript o k tpos] e X.env = pure none := by rfl)
    (h1 : (assignEach [.Subscript o k tpos] X.env).map (·.2) = [assign (.Subscript o k tpos) X.env] := by rfl) : SS X cf (.Assign [.Subscript o k tpos] e pos) (.setix x y z) :=
  (ps_asg he (pg_sub ho hk (set_D hu) ha) hs hw h1).imp fun D sg H h => by
    obtain ⟨al, r, M, m, l, hf⟩ := h
    simp only [evS] at hf
    cases e1 : ev cf z r M with
    | stop => rw [e1] at hf; exact hf.elim
    | ok d M1 =>
      rw [e1] at hf
      simp only at hf
      cases e2 : ev cf x r M1 with
      | stop => rw [e2] at hf; exact hf.elim
      | ok d2 M2 =>
        rw [e2] at hf
        simp only at hf
        cases e3 : ev cf y r M2 with
        | stop => rw [e3] at hf; exact hf.elim
        | ok d3 M3 =>
          rw [e3] at hf
          simp only at hf
          cases e4 : setixD d2 d3 d M3 with
          | none => rw [e4] at hf; exact hf.elim
          | some M4 =>
            rw [e4] at hf
            refine tEv_ok m l e1 fun al1 v H1 x1 m1 l1 r1 => tEv_ok m1 l1 e2 fun al2 v2 H2 x2 m2 l2 r2 => tEv_ok m2 l2 e3 fun al3 v3 H3 x3 m3 l3 r3 => ?_
            refine ⟨al3, M3, d2, d3, d, m3, RepV.ext x3 _ _ r2, r3, RepV.ext (x2.trans x3) _ _ r1, ?_⟩
            rw [e4]
            exact fun al4 H4 x4 m4 => hf al4 sg H4 (x1.trans (x2.trans (x3.trans x4))) m4 (l3.ext x4)
theorem ss_ex (he : SE X cf e x) (hs : swapsWith e none pos.line X.env = pure false := by rfl) : SS X cf (.Expr e pos) (.ex x) :=
  (ps_expr he hs).imp fun D sg H h => by
    obtain ⟨al, r, M, m, l, hf⟩ := h
    simp only [evS] at hf
    cases e1 : ev cf x r M with
    | stop => rw [e1] at hf; exact hf.elim
    | ok d M1 =>
      rw [e1] at hf
      exact tEv_ok m l e1 fun al1 v H1 x1 m1 l1 r1 => hf al1 sg H1 x1 m1 l1
theorem ss_ret (he : SE X cf e x) : SS X cf (.Return (some e) pos) (.ret x) :=
  (ps_ret he).imp fun D sg H h => by
    obtain ⟨al, r, M, m, l, hf⟩ := h
    simp only [evS] at hf
    cases e1 : ev cf x r M with
    | stop => rw [e1] at hf; exact hf.elim
    | ok d M1 =>
      rw [e1] at hf
      exact tEv_ok m l e1 fun al1 v H1 x1 m1 l1 r1 => hf al1 v H1 x1 m1 r1
theorem ss_ret0 : SS X cf (.Return none pos) .ret0 := ps_retN.imp fun D sg H h => by
  obtain ⟨al, r, M, m, l, hf⟩ := h
  exact hf al .non H (Ext.refl _ _) m RepV.mkNon
theorem ss_cont : SS X cf (.Continue pos) .cont := ps_continue.imp fun D sg H h => by
  obtain ⟨al, r, M, m, l, hf⟩ := h
  exact hf al sg H (Ext.refl _ _) m l
theorem ss_brk : SS X cf (.Break pos) .brk := ps_break.imp fun D sg H h => by
  obtain ⟨al, r, M, m, l, hf⟩ := h
  exact hf al sg H (Ext.refl _ _) m l
theorem ss_pass : SS X cf (.Pass pos) .pass := ps_pass.imp fun D sg H h => by
  obtain ⟨al, r, M, m, l, hf⟩ := h
  exact hf al sg H (Ext.refl _ _) m l
theorem ss_if {ss2 : List Stmt} {cs2 : List St} (hc : ST X cf e x) (h1 : SSs X cf ss cs) (h2 : SSs X cf ss2 cs2) : SS X cf (.If e ss ss2 pos) (.ite x cs cs2) :=
  (ps_if hc h1 h2).imp fun D sg H h => by
    obtain ⟨al, r, M, m, l, hf⟩ := h
    simp only [evS] at hf
    cases e1 : testOf (ev cf x r M) with
    | stop => rw [e1] at hf; exact hf.elim
    | ok k M1 =>
      rw [e1] at hf
      refine tEt_ok m l e1 fun al1 H1 x1 m1 l1 => ?_
      cases k with
      | true => exact iteT ⟨al1, r, M1, m1, l1, hf.ext x1⟩
      | false => exact iteF ⟨al1, r, M1, m1, l1, hf.ext x1⟩
theorem ss_while (hp : PassesOwn (model X.prog X.w) X.A X.env X.xe) (hc : ST X cf e x) (hb : SSs X cf ss cs) : SS X cf (.While e ss [] pos) (.while x cs) :=
  (ps_while hp hc hb).imp fun D sg H h => by
    obtain ⟨al, r, M, m, l, hf⟩ := h
    simp only [evS] at hf
    refine ⟨fun n sg H => ∃ al r M, RepM X.K H al M ∧ RepL X.K H al r sg ∧ FinS X.K H al (whileL (fun r m => testOf (ev cf x r m)) (fun r m => evSs cf cs r m) n r M) D, ⟨_, al, r, M, m, l, hf⟩, ?_⟩
    rintro n sg H ⟨al, r, M, m, l, hf⟩
    cases n with
    | zero => exact hf.elim
    | succ n =>
      simp only [whileL] at hf
      cases e1 : testOf (ev cf x r M) with
      | stop => rw [e1] at hf; exact hf.elim
      | ok b M1 =>
        rw [e1] at hf
        refine tEt_ok m l e1 fun al1 H1 x1 m1 l1 => ?_
        cases b with
        | false => exact iteF (hf al1 sg H1 x1 m1 l1)
        | true =>
          refine iteT ⟨_, fun sg' H' w => ⟨n, Nat.lt_succ_self n, w⟩, al1, r, M1, m1, l1, ?_⟩
          simp only at hf ⊢
          cases e2 : evSs cf cs r M1 with
          | nx r2 M2 => rw [e2] at hf; exact fun al2 sg2 H2 x2 m2 l2 => ⟨al2, r2, M2, m2, l2, hf.ext (x1.trans x2)⟩
          | ct r2 M2 => rw [e2] at hf; exact fun al2 sg2 H2 x2 m2 l2 => ⟨al2, r2, M2, m2, l2, hf.ext (x1.trans x2)⟩
          | bk r2 M2 => rw [e2] at hf; exact FinS.ext (o := .nx r2 M2) hf x1
          | rt d M2 => rw [e2] at hf; exact FinS.ext (o := .rt d M2) hf x1
          | stop => rw [e2] at hf; exact hf.elim

/-- a loop's turns -/
def LoopS (sq : Sq) (t : Tg) (f : Env → Mem → O) (o : O) (P : Nat → Nat → Env → Mem → Prop) : Prop := ∀ n i r M, P n i r M → sqOk sq M ∧ ((itemAt sq i M = none ∧ o = .nx r M) ∨ ∃ d r1, itemAt sq i M = some d ∧ tgt t d r = some r1 ∧ (match f r1 M with
  | .nx r2 M2 => ∃ n', n' < n ∧ P n' (i + 1) r2 M2
  | .ct r2 M2 => ∃ n', n' < n ∧ P n' (i + 1) r2 M2
  | .bk r2 M2 => o = .nx r2 M2
  | .rt d M2 => o = .rt d M2
  | .stop => False))
theorem for_core {g : L2.TG} {t : Tg} {sq : Sq} {D : Ends} {o : O} {f : Env → Mem → O} {P : Nat → Nat → Env → Mem → Prop} {J : L2.It} {H : Hp} {al : Al} {sg : L2.St} {r : Env} {M : Mem} (hg : TgOk X.K t g) (hP : LoopS sq t f o P) (w : Wk X.K H al sq J)
    (m : RepM X.K H al M) (l : RepL X.K H al r sg) (hf : FinS X.K H al o D) (n0 : Nat) (h0 : P n0 0 r M) : ∃ W : Nat → Nat → L2.St → Hp → Prop, (∃ m, W 0 m sg H) ∧ ∀ i m sg H, W i m sg H →
      (J.stop i H ∧ D.nx sg H) ∨ (J.go i H ∧ ∃ N : L2.St → Hp → Prop, (∀ sg' H', N sg' H' → ∃ m', m' < m ∧ W (i + 1) m' sg' H') ∧ ∀ x H', J.yld i H x H' → g x sg H' fun σ2 H2 => (tEs X.K f) { D with nx := N, ct := N, bk := D.nx } σ2 H2) := by
  refine ⟨fun i n sg1 H1 => ∃ al1 r1 M1, Ext H al H1 al1 ∧ RepM X.K H1 al1 M1 ∧ RepL X.K H1 al1 r1 sg1 ∧ P n i r1 M1, ⟨n0, al, r, M, Ext.refl _ _, m, l, h0⟩, ?_⟩
  rintro i n sg1 H1 ⟨al1, r1, M1, x1, m1, l1, p1⟩
  obtain ⟨ok, q⟩ := hP n i r1 M1 p1
  have wi := w H1 al1 M1 x1.toExt0.subF m1 ok i
  rcases q with ⟨e, rfl⟩ | ⟨d, r2, e, et, q⟩
  · exact .inl ⟨wi.stop e, hf al1 sg1 H1 x1 m1 l1⟩
  · obtain ⟨go, hy⟩ := wi.go d e
    refine .inr ⟨go, fun sg' H' => ∃ n', n' < n ∧ ∃ al1 r1 M1, Ext H al H' al1 ∧ RepM X.K H' al1 M1 ∧ RepL X.K H' al1 r1 sg' ∧ P n' (i + 1) r1 M1, fun sg' H' ⟨n', hn, w'⟩ => ⟨n', hn, w'⟩, fun y H2 hyl => ?_⟩
    obtain ⟨x2, mm, rv⟩ := hy y H2 hyl
    have m2 := mm M1 m1
    refine hg H2 al1 d y r1 r2 sg1 _ rv (l1.ext x2) et fun sg2 l2 _ _ => ⟨al1, r2, M1, m2, l2, ?_⟩
    have x12 := x1.trans x2
    cases e3 : f r2 M1 with
    | nx r3 M3 =>
      rw [e3] at q
      obtain ⟨n', hn, p'⟩ := q
      exact fun al3 sg3 H3 x3 m3 l3 => ⟨n', hn, al3, r3, M3, x12.trans x3, m3, l3, p'⟩
    | ct r3 M3 =>
      rw [e3] at q
      obtain ⟨n', hn, p'⟩ := q
      exact fun al3 sg3 H3 x3 m3 l3 => ⟨n', hn, al3, r3, M3, x12.trans x3, m3, l3, p'⟩
    | bk r3 M3 =>
      rw [e3] at q
      rw [q] at hf
      exact FinS.ext (o := .nx r3 M3) hf x12
    | rt d3 M3 =>
      rw [e3] at q
      rw [q] at hf
      exact FinS.ext (o := .rt d3 M3) hf x12
    | stop => rw [e3] at q; exact q.elim
theorem loop_vals {ds : List D} {t : Tg} {f : Env → Mem → O} {o : O} (ho : o ≠ .stop) : LoopS (.vals ds) t f o (fun n i r M => n = ds.length - i ∧ i ≤ ds.length ∧ forL t f (ds.drop i) r M = o) := by
  rintro n i r M ⟨rfl, hi, e⟩
  refine ⟨trivial, ?_⟩
  cases hd : ds[i]? with
  | none =>
    have hl : ds.length ≤ i := List.getElem?_eq_none_iff.mp hd
    rw [List.drop_eq_nil_of_le hl] at e
    exact .inl ⟨hd, e.symm⟩
  | some d =>
    obtain ⟨hlt, e1⟩ := List.getElem?_eq_some_iff.mp hd
    rw [List.drop_eq_getElem_cons hlt, e1] at e
    simp only [forL] at e
    cases et : tgt t d r with
    | none => rw [et] at e; exact absurd e.symm ho
    | some r1 =>
      rw [et] at e
      refine .inr ⟨d, r1, hd, et, ?_⟩
      simp only at e
      cases e3 : f r1 M with
      | nx r2 M2 => rw [e3] at e; exact ⟨_, by omega, rfl, hlt, e⟩
      | ct r2 M2 => rw [e3] at e; exact ⟨_, by omega, rfl, hlt, e⟩
      | bk r2 M2 => rw [e3] at e; exact e.symm
      | rt d2 M2 => rw [e3] at e; exact e.symm
      | stop => rw [e3] at e; exact absurd e.symm ho
theorem loop_live {q : Nat} {t : Tg} {f : Env → Mem → O} {o : O} (ho : o ≠ .stop) : LoopS (.live q) t f o (fun n i r M => forLive t f q n i r M = o) := by
  intro n i r M e
  cases n with
  | zero => exact absurd e.symm ho
  | succ n =>
    simp only [forLive] at e
    cases hm : M[q]? with
    | none => rw [hm] at e; exact absurd e.symm ho
    | some ob =>
      rw [hm] at e
      cases ob with
      | dct _ _ _ => exact absurd e.symm ho
      | lst l =>
        refine ⟨⟨l, hm⟩, ?_⟩
        simp only at e
        have ei : itemAt (.live q) i M = l[i]? := by simp only [itemAt, hm]
        rw [ei]
        cases hd : l[i]? with
        | none => rw [hd] at e; exact .inl ⟨rfl, e.symm⟩
        | some d =>
          rw [hd] at e
          simp only at e
          cases et : tgt t d r with
          | none => rw [et] at e; exact absurd e.symm ho
          | some r1 =>
            rw [et] at e
            refine .inr ⟨d, r1, rfl, et, ?_⟩
            simp only at e
            cases e3 : f r1 M with
            | nx r2 M2 => rw [e3] at e; exact ⟨n, Nat.lt_succ_self n, e⟩
            | ct r2 M2 => rw [e3] at e; exact ⟨n, Nat.lt_succ_self n, e⟩
            | bk r2 M2 => rw [e3] at e; exact e.symm
            | rt d2 M2 => rw [e3] at e; exact e.symm
            | stop => rw [e3] at e; exact absurd e.symm ho
theorem ss_for {t : Tg} {g : L2.TG} {it : It} {iter : Expr} (hp : PassesOwn (model X.prog X.w) X.A X.env X.xe) (hc : X.calm = true) (hi : SI X cf tg iter it) (hg : TgR X tg t g) (hb : SSs X cf ss cs)
    (hs : ∀ x, foldedSetIterable iter X.env x = pure x := by intro _; rfl) : SS X cf (.For tg iter ss [] pos) (.for t it cs) :=
  (ps_for hp hc hi hg.pg hb hs).imp fun D sg H h => by
    obtain ⟨al, r, M, m, l, hf⟩ := h
    simp only [evS] at hf
    refine ⟨al, r, M, m, l, ?_⟩
    simp only
    cases e1 : evIt cf it r M with
    | stop => rw [e1] at hf; exact hf.elim
    | ok sq M1 =>
      rw [e1] at hf
      intro al1 H1 J x1 m1 w
      cases sq with
      | vals ds =>
        have hf : FinS X.K H al (forL t (fun r m => evSs cf cs r m) ds r M1) D := hf
        have ho : forL t (fun r m => evSs cf cs r m) ds r M1 ≠ .stop := fun z => by rw [z] at hf; exact hf
        exact for_core hg.ok (loop_vals ho) w m1 (l.ext x1) (FinS.ext hf x1) ds.length ⟨rfl, Nat.zero_le _, rfl⟩
      | live q =>
        have ho : forLive t (fun r m => evSs cf cs r m) q maxLoops 0 r M1 ≠ .stop := fun z => by
          have hf : FinS X.K H al (forLive t (fun r m => evSs cf cs r m) q maxLoops 0 r M1) D := hf
          rw [z] at hf; exact hf
        exact for_core hg.ok (loop_live ho) w m1 (l.ext x1) (FinS.ext hf x1) maxLoops rfl
      | keys q => exact hf.elim
end
end MP
set_option Elab.async false
set_option linter.all false
set_option maxRecDepth 100000
set_option autoImplicit false
namespace MP
open PySem PySem.Spec PyProof.Rows L2

/-! ### a block's own names are forgotten -/
theorem RepL.none {K : Fr} {H : Hp} {al : Al} {r : Env} {sg : L2.St} (l : RepL K H al r sg) (i : Nat) : RepL K H al (r.set i .none) (sg.set i .none) := by
  refine ⟨by simp [l.1], fun j d e => ?_⟩
  by_cases hj : i = j
  · subst hj
    by_cases hi : i < r.length
    · rw [List.getElem?_set_self hi] at e; cases e
    · rw [List.getElem?_eq_none (by simpa using hi)] at e; cases e
  · rw [List.getElem?_set_ne hj] at e
    obtain ⟨v, h1, h2⟩ := l.2 j d e
    exact ⟨v, by rw [List.getElem?_set_ne hj]; exact h1, h2⟩
theorem RepL.wipe {K : Fr} {H : Hp} {al : Al} {r : Env} {sg : L2.St} (l : RepL K H al r sg) : ∀ vs : List Nat, RepL K H al (wipeE r vs) (L2.wipe sg vs)
  | [] => l
  | v :: vs => (l.wipe vs).none v
theorem wipe_get (sg : L2.St) (i : Nat) : ∀ vs : List Nat, (L2.wipe sg vs)[i]? = if i ∈ vs then sg[i]?.map (fun _ => Option.none) else sg[i]?
  | [] => by simp [L2.wipe]
  | v :: vs => by
    show ((L2.wipe sg vs).set v Option.none)[i]? = _
    by_cases hv : v = i
    · subst hv
      by_cases hl : v < (L2.wipe sg vs).length
      · rw [List.getElem?_set_self hl, if_pos List.mem_cons_self]
        rw [wipe_length] at hl
        rw [List.getElem?_eq_getElem hl]
        rfl
      · rw [List.getElem?_eq_none (by simpa using hl), if_pos List.mem_cons_self]
        rw [wipe_length] at hl
        rw [List.getElem?_eq_none (by omega)]
        rfl
    · rw [List.getElem?_set_ne hv, wipe_get sg i vs]
      by_cases hm : i ∈ vs
      · rw [if_pos hm, if_pos (List.mem_cons_of_mem _ hm)]
      · rw [if_neg hm, if_neg (by simp [hm, Ne.symm hv])]
theorem wipe_again {sg sg1 : L2.St} {vs : List Nat} (h : ∀ j, j ∉ vs → sg1[j]? = (L2.wipe sg vs)[j]?) (hl : sg1.length = (L2.wipe sg vs).length) : L2.wipe sg1 vs = L2.wipe sg vs := by
  refine List.ext_getElem? fun i => ?_
  rw [wipe_get, wipe_get]
  by_cases hm : i ∈ vs
  · rw [if_pos hm, if_pos hm]
    rw [wipe_length] at hl
    by_cases hi : i < sg.length
    · rw [List.getElem?_eq_getElem hi, List.getElem?_eq_getElem (by omega)]; rfl
    · rw [List.getElem?_eq_none (by omega), List.getElem?_eq_none (by omega)]
  · rw [if_neg hm, if_neg hm, h i hm, wipe_get, if_neg hm]

/-- .. but for the thing at G -/
structure ExtG (G : Addr) (H : Hp) (al : Al) (H1 : Hp) (al1 : Al) : Prop extends Ext0 H al H1 al1 where
  kept : ∀ q ∈ al.res, q ≠ G → H1 q = H q
theorem ExtG.refl (G : Addr) (H : Hp) (al : Al) : ExtG G H al H al := ⟨Ext0.refl H al, fun _ _ _ => rfl⟩
theorem ExtG.step {G : Addr} {H H1 H2 : Hp} {al al1 al2 : Al} (a : ExtG G H al H1 al1) (b : Ext H1 al1 H2 al2) : ExtG G H al H2 al2 :=
  ⟨a.toExt0.trans b.toExt0, fun q hq hn => (b.kept q (by rw [a.res]; exact hq)).trans (a.kept q hq hn)⟩
theorem ExtG.grow {G : Addr} {H H1 : Hp} {al al1 : Al} {o u : HO} (a : ExtG G H al H1 al1) (hd : G ∈ al1.res) (hu : H1 G = some u) (ht : NoT u) : ExtG G H al (upd H1 G o) al1 :=
  ⟨a.toExt0.trans (ext0_mut (.inr hd) hu ht), fun q hq hn => (upd_ne hn).trans (a.kept q hq hn)⟩

/-- a comprehension's turns -/
def LoopC (sq : Sq) (t : Tg) (rw : Env) (ok : Env → Mem → R Bool) (f : Env → Mem → R D) (dsF : List D) (MF : Mem) (P : Nat → Nat → List D → Mem → Prop) : Prop := ∀ n i acc M, P n i acc M → sqOk sq M ∧
  ((itemAt sq i M = none ∧ acc = dsF ∧ M = MF) ∨ ∃ d r1 b M1, itemAt sq i M = some d ∧ tgt t d rw = some r1 ∧ ok r1 M = .ok b M1 ∧
    (if b = true then ∃ x M2, f r1 M1 = .ok x M2 ∧ acc.length < line ∧ ∃ n', n' < n ∧ P n' (i + 1) (acc ++ [x]) M2 else ∃ n', n' < n ∧ P n' (i + 1) acc M1))
theorem loopC_vals {ds : List D} {t : Tg} {rw : Env} {ok : Env → Mem → R Bool} {f : Env → Mem → R D} {dsF : List D} {MF : Mem} : LoopC (.vals ds) t rw ok f dsF MF (fun n i acc M => n = ds.length - i ∧ i ≤ ds.length ∧ compL t rw ok f (ds.drop i) acc M = .ok dsF MF) := by
  rintro n i acc M ⟨rfl, hi, e⟩
  refine ⟨trivial, ?_⟩
  cases hd : ds[i]? with
  | none =>
    have hl : ds.length ≤ i := List.getElem?_eq_none_iff.mp hd
    rw [List.drop_eq_nil_of_le hl] at e
    simp only [compL] at e
    cases e
    exact .inl ⟨hd, rfl, rfl⟩
  | some d =>
    obtain ⟨hlt, e1⟩ := List.getElem?_eq_some_iff.mp hd
    rw [List.drop_eq_getElem_cons hlt, e1] at e
    simp only [compL] at e
    cases et : tgt t d rw with
    | none => rw [et] at e; cases e
    | some r1 =>
      rw [et] at e
      simp only at e
      cases eo : ok r1 M with
      | stop => rw [eo] at e; cases e
      | ok b M1 =>
        rw [eo] at e
        refine .inr ⟨d, r1, b, M1, hd, et, eo, ?_⟩
        cases b with
        | false => exact iteF ⟨_, by omega, rfl, hlt, e⟩
        | true =>
          simp only at e
          cases ef : f r1 M1 with
          | stop => rw [ef] at e; cases e
          | ok x M2 =>
            rw [ef] at e
            simp only at e
            split at e
            · rename_i hz
              exact iteT ⟨x, M2, rfl, hz, _, by omega, rfl, hlt, e⟩
            · cases e
theorem loopC_live {q : Nat} {t : Tg} {rw : Env} {ok : Env → Mem → R Bool} {f : Env → Mem → R D} {dsF : List D} {MF : Mem} : LoopC (.live q) t rw ok f dsF MF (fun n i acc M => compLive t rw ok f q n i acc M = .ok dsF MF) := by
  intro n i acc M e
  cases n with
  | zero => cases e
  | succ n =>
    simp only [compLive] at e
    cases hm : M[q]? with
    | none => rw [hm] at e; cases e
    | some ob =>
      rw [hm] at e
      cases ob with
      | dct _ _ _ => cases e
      | lst l =>
        refine ⟨⟨l, hm⟩, ?_⟩
        simp only at e
        have ei : itemAt (.live q) i M = l[i]? := by simp only [itemAt, hm]
        rw [ei]
        cases hd : l[i]? with
        | none =>
          rw [hd] at e
          cases e
          exact .inl ⟨rfl, rfl, rfl⟩
        | some d =>
          rw [hd] at e
          simp only at e
          cases et : tgt t d rw with
          | none => rw [et] at e; cases e
          | some r1 =>
            rw [et] at e
            simp only at e
            cases eo : ok r1 M with
            | stop => rw [eo] at e; cases e
            | ok b M1 =>
              rw [eo] at e
              refine .inr ⟨d, r1, b, M1, rfl, et, eo, ?_⟩
              cases b with
              | false => exact iteF ⟨n, Nat.lt_succ_self n, e⟩
              | true =>
                simp only at e
                cases ef : f r1 M1 with
                | stop => rw [ef] at e; cases e
                | ok x M2 =>
                  rw [ef] at e
                  simp only at e
                  split at e
                  · rename_i hz
                    exact iteT ⟨x, M2, rfl, hz, n, Nat.lt_succ_self n, e⟩
                  · cases e

section
variable {X : Cx} {cf : CF}
theorem comp_core {g : L2.TG} {t : Tg} {sq : Sq} {ok : Env → Mem → R Bool} {f : Env → Mem → R D} {dsF : List D} {MF : Mem} {P : Nat → Nat → List D → Mem → Prop} {J : L2.It} {H : Hp} {al : Al} {sg : L2.St} {r : Env} {M : Mem} {own : List Nat} {G : Addr} {Q : Hp → Prop}
    (hg : TgOk X.K t g) (hto : ∀ i ∈ tgIs t, i ∈ own) (hP : LoopC sq t (wipeE r own) ok f dsF MF P) (w : Wk X.K H al sq J) (m : RepM X.K H al M) (l : RepL X.K H al r sg) (hG : H G = none) (n0 : Nat) (h0 : P n0 0 [] M)
    (fin : ∀ H1 al1 vs, ExtG G (upd H G (.lst [])) (al.take G) H1 al1 → G ∈ al1.res → RepM X.K H1 al1 MF → H1 G = some (.lst vs) → RepVs X.K H1 al1 dsF vs → Q H1) :
    ∃ W : Nat → Nat → Hp → Prop, (∃ m, W 0 m (upd H G (.lst []))) ∧ ∀ i m H, W i m H → (J.stop i H ∧ Q H) ∨ (J.go i H ∧ ∃ Nx : Hp → Prop, (∀ H', Nx H' → ∃ m', m' < m ∧ W (i + 1) m' H') ∧
      ∀ x H', J.yld i H x H' → g x (L2.wipe sg own) H' fun σ2 H2 => L2.wipe σ2 own = L2.wipe sg own ∧ (tEt X.K ok) σ2 H2 fun b H3 =>
        if b = true then (tEv X.K f) σ2 H3 fun y H4 => ∃ acc, H4 G = some (.lst acc) ∧ acc.length < sizeLine ∧ Nx (upd H4 G (.lst (acc ++ [y]))) else Nx H3) := by
  have hGn : G ∉ al := m.fresh hG
  have s0 : SubF H al (upd H G (.lst [])) (al.take G) := subF_take hG
  refine ⟨fun i n H1 => ∃ al1 M1 acc vs, ExtG G (upd H G (.lst [])) (al.take G) H1 al1 ∧ G ∈ al1.res ∧ H1 G = some (.lst vs) ∧ RepM X.K H1 al1 M1 ∧ RepVs X.K H1 al1 acc vs ∧ P n i acc M1,
    ⟨n0, al.take G, M, [], [], ExtG.refl _ _ _, List.mem_cons_self, upd_same, m.take hG, RepVs.nil, h0⟩, ?_⟩
  rintro i n H1 ⟨al1, M1, acc, vs, x1, hGr, hGl, m1, ra, p1⟩
  obtain ⟨okq, q⟩ := hP n i acc M1 p1
  have s1 : SubF H al H1 al1 := s0.trans x1.toExt0.subF
  have wi := w H1 al1 M1 s1 m1 okq i
  rcases q with ⟨e, rfl, rfl⟩ | ⟨d, r1, b, M2, e, et, eo, q⟩
  · exact .inl ⟨wi.stop e, fin H1 al1 vs x1 hGr m1 hGl ra⟩
  · obtain ⟨go, hy⟩ := wi.go d e
    refine .inr ⟨go, fun H' => ∃ n', n' < n ∧ ∃ al1 M1 acc vs, ExtG G (upd H G (.lst [])) (al.take G) H' al1 ∧ G ∈ al1.res ∧ H' G = some (.lst vs) ∧ RepM X.K H' al1 M1 ∧ RepVs X.K H' al1 acc vs ∧ P n' (i + 1) acc M1, fun H' h => h, fun y H2 hyl => ?_⟩
    obtain ⟨x2, mm, rv⟩ := hy y H2 hyl
    have m2 := mm M1 m1
    have l2 : RepL X.K H2 al1 (wipeE r own) (L2.wipe sg own) := (l.wipe own).sub (s1.toSub.trans x2.toExt0.sub)
    refine hg H2 al1 d y (wipeE r own) r1 _ _ rv l2 et fun sg2 l3 h1 h2 => ⟨wipe_again (fun j hj => h1 j fun z => hj (hto j z)) h2, tEt_ok m2 l3 eo fun al3 H3 x3 m3 l4 => ?_⟩
    cases b with
    | false =>
      obtain ⟨n', hn, p'⟩ := (show ∃ n', n' < n ∧ P n' (i + 1) acc M2 from by simpa using q)
      refine iteF ⟨n', hn, al3, M2, acc, vs, (x1.step x2).step x3, by rw [x3.res]; exact hGr, ?_, m3, RepVs.ext (x2.trans x3) _ _ ra, p'⟩
      exact ((x3.kept G hGr).trans (x2.kept G hGr)).trans hGl
    | true =>
      obtain ⟨z, M3, ef, hz, n', hn, p'⟩ := (show ∃ x M3, f r1 M2 = .ok x M3 ∧ acc.length < line ∧ ∃ n', n' < n ∧ P n' (i + 1) (acc ++ [x]) M3 from by simpa using q)
      refine iteT (tEv_ok m3 l4 ef fun al4 v H4 x4 m4 l5 r4 => ?_)
      have x24 := x2.trans (x3.trans x4)
      have hG4 : H4 G = some (.lst vs) := (x24.kept G hGr).trans hGl
      have hGr4 : G ∈ al4.res := by rw [x24.res]; exact hGr
      have gr : Ext0 H4 al4 (upd H4 G (.lst (vs ++ [v]))) al4 := ext0_mut (.inr hGr4) hG4 (NoT.lst _)
      refine ⟨vs, hG4, ?_, n', hn, al4, M3, acc ++ [z], vs ++ [v], (x1.step x24).grow hGr4 hG4 (NoT.lst _), hGr4, upd_same, m4.grow hGr4 hG4 (NoT.lst _), RepVs.ext0 gr _ _ ((RepVs.ext x24 _ _ ra).append (RepVs.one r4)), p'⟩
      rw [ra.length, ← line_eq]
      exact hz

/-! ### the rule -/
abbrev SPs (X : Cx) (cf : CF) (ifs : List Expr) (ts : List Ex) : Prop := PTs X ifs (tEt X.K fun r M => evTests cf ts r M)
theorem _root_.L2.PTs.imp {X : Cx} {e : List Expr} {t u : TT} (h : PTs X e t) (f : ∀ sg H Q, u sg H Q → t sg H Q) : PTs X e u := ⟨fun pins s sg H Q I q => h.run pins s sg H Q I (f sg H Q q)⟩
theorem sp_nil : SPs X cf [] [] := pts_nil.imp fun sg H Q h => by
  obtain ⟨al, r, M, m, l, hf⟩ := h
  exact hf al H (Ext.refl _ _) m
theorem sp_one {c : Expr} {x : Ex} (hc : ST X cf c x) : SPs X cf [c] [x] := (pts_one hc).imp fun sg H Q h => by
  obtain ⟨al, r, M, m, l, hf⟩ := h
  refine ⟨al, r, M, m, l, ?_⟩
  simp only [evTests] at hf
  simp only
  cases e : testOf (ev cf x r M) with
  | stop => rw [e] at hf; exact hf.elim
  | ok b M1 =>
    rw [e] at hf
    cases b <;> exact hf
/-- the new list, at the end -/
theorem made_lst {K : Fr} {H H1 : Hp} {al al1 : Al} {G : Addr} {vs : List V} {ds : List D} {M : Mem} {Q : VK} (m0 : RepM K H al M) (hG : H G = none) {MF : Mem} (hf : FinE K H al (.ok (.lst ds) MF) Q) (x : ExtG G (upd H G (.lst [])) (al.take G) H1 al1) (hGr : G ∈ al1.res) (m : RepM K H1 al1 MF)
    (hl : H1 G = some (.lst vs)) (r : RepVs K H1 al1 ds vs) : Q (.ref G) H1 := by
  have hGn := m0.fresh hG
  have kept : ∀ q ∈ al.res, H1 q = H q := fun q hq => by
    have hne : q ≠ G := fun e => hGn (.inr (e ▸ hq))
    rw [x.kept q (List.mem_cons_of_mem _ hq) hne, upd_ne hne]
  obtain ⟨e1, hno⟩ := ext_made hG hGn x.toExt0 kept
  have res1 : al1.res = G :: al.res := x.res
  have ea : al1 = (⟨al1.objs, al.res⟩ : Al).take G := by
    cases al1 with
    | mk ob re => simp only [Al.take]; rw [← res1]
  rw [ea] at m r
  refine hf _ _ H1 e1 m.untake ?_
  simp only [RepV]
  exact ⟨G, vs, rfl, .inl ⟨.inl hl, hno⟩, RepVs.untake _ _ r⟩
theorem comp_ok {own : List Nat} {t : Tg} {it : It} {ts : List Ex} {x : Ex} {r : Env} {M : Mem} {d : D} {M' : Mem} (hk : ∀ q M1, evIt cf it r M ≠ .ok (.keys q) M1) (h : ev cf (.comp false own t it ts x) r M = .ok d M') :
    ∃ sq M1 ds, evIt cf it r M = .ok sq M1 ∧ d = .lst ds ∧ ∃ P n0, LoopC sq t (wipeE r own) (fun r m => evTests cf ts r m) (fun r m => ev cf x r m) ds M' P ∧ P n0 0 [] M1 := by
  simp only [ev] at h
  cases e : evIt cf it r M with
  | stop => rw [e] at h; cases h
  | ok sq M1 =>
    rw [e] at h
    cases sq with
    | vals l =>
      simp only at h
      cases e2 : compL t (wipeE r own) (fun r m => evTests cf ts r m) (fun r m => ev cf x r m) l [] M1 with
      | stop => rw [e2] at h; cases h
      | ok ds M2 =>
        rw [e2] at h
        simp only [Bool.false_eq_true, if_false] at h
        cases h
        exact ⟨_, _, ds, rfl, rfl, _, l.length, loopC_vals, rfl, Nat.zero_le _, e2⟩
    | live o =>
      simp only at h
      cases e2 : compLive t (wipeE r own) (fun r m => evTests cf ts r m) (fun r m => ev cf x r m) o maxLoops 0 [] M1 with
      | stop => rw [e2] at h; cases h
      | ok ds M2 =>
        rw [e2] at h
        simp only [Bool.false_eq_true, if_false] at h
        cases h
        exact ⟨_, _, ds, rfl, rfl, _, maxLoops, loopC_live, e2⟩
    | keys o => exact absurd e (hk o M1)
def noKeys : It → Bool
  | .keys _ => false
  | _ => true
theorem noKeys_ok {it : It} (h : noKeys it = true) (r : Env) (M : Mem) : ∀ q M1, evIt cf it r M ≠ .ok (.keys q) M1 := by
  intro q M1 e
  cases it with
  | keys _ => cases h
  | seq x =>
    simp only [evIt] at e
    split at e
    · unfold seqOf at e
      split at e <;> first | (cases e; done) | (split at e <;> cases e)
    · cases e
  | range1 x =>
    simp only [evIt] at e
    split at e
    · split at e <;> cases e
    · cases e
  | range2 x y =>
    simp only [evIt] at e
    split at e
    · split at e
      · split at e <;> cases e
      · cases e
    · cases e
  | enum x =>
    simp only [evIt] at e
    split at e <;> cases e
variable {elt tg iter : Expr} {ifs : List Expr} {scope : Scope} {own : List (Str × Nat)} {pos spos py : Pos} {t : Tg} {g : L2.TG} {it : It} {ts : List Ex} {x : Ex}
theorem lc_of {Q : VK} {sg : L2.St} {H : Hp} (hto : ∀ i ∈ tgIs t, i ∈ own.map (·.2)) (hnk : noKeys it = true) (hg : TgOk X.K t g) (h : tEv X.K (fun r M => ev cf (.comp false (own.map (·.2)) t it ts x) r M) sg H Q) :
    tLc (tIt X.K fun r M => evIt cf it r M) g (tEt X.K fun r M => evTests cf ts r M) (tEv X.K fun r M => ev cf x r M) (own.map (·.2)) sg H Q := by
  obtain ⟨al, r, M, m, l, hf⟩ := h
  simp only at hf
  obtain ⟨d, M', e⟩ := fe_ok hf
  obtain ⟨sq, M1, ds, e1, rfl, P, n0, hP, h0⟩ := comp_ok (noKeys_ok hnk r M) e
  rw [e] at hf
  refine ⟨al, r, M, m, l, ?_⟩
  simp only [e1]
  intro al1 H1 J x1 m1 w G hG
  exact comp_core hg hto hP w m1 (l.ext x1) hG n0 h0 fun H2 al2 vs x2 hGr m2 hl rs => made_lst m1 hG (hf.ext x1) x2 hGr m2 hl rs
theorem se_comp (hc : X.calm = true) (hN : X.N.Nodup) (hi : SI X cf tg iter it) (ok : BlkOk X.N X.env.scope scope own) (hto : ∀ i ∈ tgIs t, i ∈ own.map (·.2)) (hnk : noKeys it = true) (hgo : TgOk X.K t g)
    (hg : ∀ (s : Shared) (H : Hp) (C : Addr) (cl : List (Str × Addr)) (fp : List Addr), PG (X.blk s H scope (compEnvC scope cl C X.env) fp) tg g) (ht : ∀ (s : Shared) (H : Hp) (C : Addr) (cl : List (Str × Addr)) (fp : List Addr), SPs (X.blk s H scope (compEnvC scope cl C X.env) fp) cf ifs ts)
    (he : ∀ (s : Shared) (H : Hp) (C : Addr) (cl : List (Str × Addr)) (fp : List Addr), SE (X.blk s H scope (compEnvC scope cl C X.env) fp) cf elt x) (hs : ∀ x, foldedSetIterable iter X.env x = pure x := by intro _; rfl) :
    SE X cf (.ListComp elt [⟨tg, iter, ifs, 0⟩] scope pos) (.comp false (own.map (·.2)) t it ts x) :=
  (pe_lc hc hN hi ok hg ht he hs).imp fun sg H Q h => lc_of hto hnk hgo h
/-- name = [..] on one line -/
theorem ss_setC (i : Nat) {n : Str} (hc : X.calm = true) (hN : X.N.Nodup) (hk : X.env.scope.kind = .function) (hi : SI X cf tg iter it) (ok : BlkOk X.N X.env.scope scope own) (hto : ∀ i ∈ tgIs t, i ∈ own.map (·.2)) (hnk : noKeys it = true) (hgo : TgOk X.K t g)
    (hg : ∀ (s : Shared) (H : Hp) (C : Addr) (cl : List (Str × Addr)) (fp : List Addr), PG (X.blk s H scope (compEnvC scope cl C X.env) fp) tg g) (ht : ∀ (s : Shared) (H : Hp) (C : Addr) (cl : List (Str × Addr)) (fp : List Addr), SPs (X.blk s H scope (compEnvC scope cl C X.env) fp) cf ifs ts)
    (he : ∀ (s : Shared) (H : Hp) (C : Addr) (cl : List (Str × Addr)) (fp : List Addr), SE (X.blk s H scope (compEnvC scope cl C X.env) fp) cf elt x)
    (hy : X.N[i]? = some n := by rfl) (hyl : X.env.scope.names.lookup n = some .local := by rfl) (hl : (py.line == pos.line) = true := by rfl) (ha : (scope.names.any fun (m, k) => m == n && (k == .local || k == .cell)) = false := by rfl)
    (hs : ∀ x, foldedSetIterable iter X.env x = pure x := by intro _; rfl) :
    SS X cf (.Assign [.Name n py] (.ListComp elt [⟨tg, iter, ifs, 0⟩] scope pos) spos) (.set i (.comp false (own.map (·.2)) t it ts x)) :=
  (ps_setLc hc hN hy hyl (sw_true hk hyl hl ha) hi ok hg ht he hs).imp fun D sg H h => by
    obtain ⟨al, r, M, m, l, hf⟩ := h
    refine lc_of (ts := ts) (x := x) hto hnk hgo ⟨al, r, M, m, l, ?_⟩
    simp only [evS] at hf
    simp only
    cases e1 : ev cf (.comp false (own.map (·.2)) t it ts x) r M with
    | stop => rw [e1] at hf; exact hf.elim
    | ok d M1 =>
      rw [e1] at hf
      intro al1 v H1 x1 m1 r1
      exact hf al1 _ H1 x1 m1 ((l.ext x1).set i r1)
end
end MP
set_option Elab.async false
set_option linter.all false
set_option maxRecDepth 100000
set_option autoImplicit false
namespace MP
open PySem PySem.Spec PyProof.Rows L2

/-! ### dict displays -/
/-- a value: the dict at G, made in al1, nobody changes it any more -/
theorem made_dct {K : Fr} {H H1 : Hp} {al al1 : Al} {G : Addr} {kvs : List (Key × V)} {ks vd : List D} {M : Mem} {o : HO} {M0 : Mem} (m0 : RepM K H al M0) (hG : H G = none) (x : ExtG G (upd H G o) (al.take G) H1 al1) (hGr : G ∈ al1.res) (m : RepM K H1 al1 M)
    (hl : H1 G = some (.dK kvs)) (hk : kvs.map (fun q => kD q.1) = ks) (ok : ∀ q ∈ kvs, keyOk q.1) (r : RepVs K H1 al1 vd (kvs.map (·.2))) :
    (∀ Q : VK, FinE K H al (.ok (.dct false ks vd) M) Q → Q (.ref G) H1) ∧ (ks.length = vd.length → ∀ Q : VK, FinE K H al (.ok (.obj M.length) (M ++ [.dct false (ks.zip vd) false])) Q → Q (.ref G) H1) := by
  have hGn := m0.fresh hG
  have kept : ∀ q ∈ al.res, H1 q = H q := fun q hq => by
    have hne : q ≠ G := fun e => hGn (.inr (e ▸ hq))
    rw [x.kept q (List.mem_cons_of_mem _ hq) hne, upd_ne hne]
  obtain ⟨e1, hno⟩ := ext_made hG hGn x.toExt0 kept
  have res1 : al1.res = G :: al.res := x.res
  have ea : al1 = (⟨al1.objs, al.res⟩ : Al).take G := by
    cases al1 with
    | mk ob re => simp only [Al.take]; rw [← res1]
  have x0 : Ext0 (upd H G o) (al.take G) H1 ((⟨al1.objs, al.res⟩ : Al).take G) := by rw [← ea]; exact x.toExt0
  have e2 := ext_made_reg hG hGn x0 kept
  rw [ea] at m r
  refine ⟨fun Q hf => hf _ _ H1 e1 m.untake ?_, fun hlen Q hf => hf _ _ H1 e2 (m.regd (fun z => hGn (.inr z)) ?_) ?_⟩
  · simp only [RepV]
    exact ⟨G, _, _, rfl, hno, .inl hl, ⟨kvs, rfl, hk, rfl, ok⟩, RepVs.untake _ _ r⟩
  · refine ⟨_, kvs.map (·.2), ?_, ⟨kvs, rfl, ?_, rfl, ok⟩, ?_⟩
    · rw [if_neg Bool.false_ne_true]; exact hl
    · rw [zip_fst hlen]; exact hk
    · rw [zip_snd hlen]; exact RepVs.swap reg_mem reg_at _ _ r
  · simp only [RepV]
    refine ⟨G, ?_, rfl⟩
    show (al1.objs ++ [G])[M.length]? = some G
    have hlen2 : al1.objs.length = M.length := m.len
    rw [List.getElem?_append_right (by omega), hlen2]
    simp

section
variable {X : Cx} {cf : CF} {e : Expr} {es : List Expr} {x : Ex} {xs : List Ex} {pos p kp : Pos}
theorem se_dct0 : SE X cf (.Dict [] [] pos) (.dct false false [] []) := by
  refine pe_dnewK.imp fun sg H Q h => ?_
  obtain ⟨al, r, M, m, l, hf⟩ := h
  simp only [ev, evs, Bool.false_eq_true, if_false] at hf
  intro G hG
  exact (made_dct (kvs := []) (ks := []) (vd := []) m hG (ExtG.refl G (upd H G (.dK [])) (al.take G)) List.mem_cons_self (m.take hG) upd_same rfl (by simp) RepVs.nil).1 Q hf
theorem se_dctM0 : SE X cf (.Dict [] [] pos) (.dct true false [] []) := by
  refine pe_dnewK.imp fun sg H Q h => ?_
  obtain ⟨al, r, M, m, l, hf⟩ := h
  simp only [ev, evs, if_true] at hf
  intro G hG
  exact (made_dct (kvs := []) (ks := []) (vd := []) m hG (ExtG.refl G (upd H G (.dK [])) (al.take G)) List.mem_cons_self (m.take hG) upd_same rfl (by simp) RepVs.nil).2 rfl Q hf
/-- constant keys, values -/
def sKey (s : List Nat) : Key := .inr ⟨s.toArray⟩
def SD (X : Cx) (cf : CF) (pos : Pos) (ss : List (List Nat)) (keys : List (Option Expr)) (es : List Expr) (xs : List Ex) : Prop := ∃ trs, PPs X pos keys es trs ∧ ∀ sg H Q, tEa X.K (fun r M => evs cf xs r M) sg H (fun us H1 => Q ((ss.map fun s => kV (sKey s)).zip us) H1) → tPairs trs sg H Q
theorem sd_nil : SD X cf pos [] [] [] [] := ⟨[], pps_nil, fun sg H Q h => by
  obtain ⟨al, r, M, m, l, hf⟩ := h
  exact hf al [] H (Ext.refl _ _) m RepVs.nil⟩
theorem sd_cons {s : List Nat} {ss : List (List Nat)} {keys : List (Option Expr)} {t : Str} {j : Nat} (he : SE X cf e x) (hr : SD X cf pos ss keys es xs) (ht : t = ⟨s.toArray⟩ := by decide +kernel) : SD X cf pos (s :: ss) (some (.Constant (.str t) j kp) :: keys) (e :: es) (x :: xs) := by
  obtain ⟨trs, h1, h2⟩ := hr
  refine ⟨(tC (.str t), tEv X.K fun r M => ev cf x r M) :: trs, pps_cons pe_str he h1, fun sg H Q h => ?_⟩
  obtain ⟨al, r, M, m, l, hf⟩ := h
  simp only [evs] at hf
  show tC (.str t) sg H fun a H1 => (tEv X.K fun r M => ev cf x r M) sg H1 fun y H2 => tPairs trs sg H2 fun ps H3 => Q ((a, y) :: ps) H3
  show (tEv X.K fun r M => ev cf x r M) sg H fun y H2 => tPairs trs sg H2 fun ps H3 => Q ((V.str t, y) :: ps) H3
  cases e1 : ev cf x r M with
  | stop => rw [e1] at hf; exact hf.elim
  | ok d M1 =>
    rw [e1] at hf
    simp only at hf
    refine tEv_ok m l e1 fun al1 v H1 x1 m1 l1 r1 => h2 sg H1 _ ⟨al1, r, M1, m1, l1, ?_⟩
    simp only
    cases e2 : evs cf xs r M1 with
    | stop => rw [e2] at hf; exact hf.elim
    | ok ds M2 =>
      rw [e2] at hf
      intro al2 vs H2 x2 m2 r2
      have := hf al2 (v :: vs) H2 (x1.trans x2) m2 (RepVs.cons (RepV.ext x2 _ _ r1) r2)
      rw [ht]
      exact this
theorem merge_fresh : ∀ (kvs acc : List (Key × V)), ((acc ++ kvs).map (·.1)).Nodup → mergeK acc kvs = acc ++ kvs
  | [], acc, _ => by simp [mergeK]
  | q :: r, acc, h => by
    have hput : L2.putK acc q.1 q.2 = acc ++ [q] := by
      unfold L2.putK
      rw [if_neg]
      intro z
      obtain ⟨p, hp, e⟩ := List.any_eq_true.mp z
      have e : p.1 = q.1 := of_decide_eq_true e
      rw [List.map_append, List.map_cons, List.nodup_append] at h
      exact h.2.2 p.1 (List.mem_map_of_mem hp) q.1 List.mem_cons_self e
    show mergeK (L2.putK acc q.1 q.2) r = _
    rw [hput, merge_fresh r (acc ++ [q]) (by simpa using h)]
    simp
theorem keys_zip : ∀ (ss : List (List Nat)) (us : List V), ss.length = us.length → ((ss.map fun s => kV (sKey s)).zip us) = ((ss.map sKey).zip us).map (fun kv => (kV kv.1, kv.2))
  | [], us, _ => by simp
  | s :: ss, [], h => by simp at h
  | s :: ss, u :: us, h => by
    simp only [List.map_cons, List.zip_cons_cons]
    rw [keys_zip ss us (by simpa using h)]
theorem se_dct_core {ss : List (List Nat)} {keys : List (Option Expr)} (h : SD X cf pos ss keys es xs) (hs : ss.length = xs.length) (hall : keys.all (·.isSome) = true) (hl : keys.length = es.length) (h0 : keys ≠ []) (h15 : keys.length ≤ 15) (hss : ss.length = keys.length) (nd : (ss.map sKey).Nodup) (hok : ∀ s ∈ ss, PyData.strOk ⟨s.toArray⟩ = true) :
    SE X cf (.Dict keys es pos) (.dct false false (ss.map fun s => .k (.str s)) xs) ∧ SE X cf (.Dict keys es pos) (.dct true false (ss.map fun s => .k (.str s)) xs) := by
  obtain ⟨trs, h1, h2⟩ := h
  have ksEv : ∀ (ss : List (List Nat)) (r : Env) (M : Mem), evs cf (ss.map fun s => Ex.k (.str s)) r M = .ok (ss.map D.str) M := fun ss r M => by
    induction ss with
    | nil => rfl
    | cons s t ih => simp only [List.map_cons, evs, ev, ih]
  have core : ∀ (mu : Bool), SE X cf (.Dict keys es pos) (.dct mu false (ss.map fun s => .k (.str s)) xs) := fun mu => (pe_disp h1 hall hl h0 h15).imp fun sg H Q q => by
    obtain ⟨al, r, M, m, l, hf⟩ := q
    simp only [ev, ksEv] at hf
    intro G hG
    refine h2 sg _ _ ?_
    cases e1 : evs cf xs r M with
    | stop => rw [e1] at hf; exact hf.elim
    | ok ds M1 =>
      rw [e1] at hf
      simp only at hf
      have hds := evs_len _ _ _ _ _ e1
      refine tEa_ok (m.take hG) (l.sub (sub_take hG)) e1 fun al1 us H1 x1 m1 l1 r1 => ?_
      have hGr : G ∈ al1.res := by rw [x1.res]; exact List.mem_cons_self
      have hG1 : H1 G = some (.dK []) := (x1.kept G List.mem_cons_self).trans upd_same
      have hus : ss.length = us.length := by rw [r1.length, hds, hs]
      refine ⟨hG1, (ss.map sKey).zip us, keys_zip ss us hus, ?_, ?_⟩
      · rw [List.length_zip, List.length_map]; omega
      have hmap : ((ss.map sKey).zip us).map (·.1) = ss.map sKey := zip_fst (by simpa using hus)
      have hmap2 : ((ss.map sKey).zip us).map (·.2) = us := zip_snd (by simpa using hus)
      rw [merge_fresh _ [] (by rw [List.nil_append, hmap]; exact nd), List.nil_append]
      have gr : ExtG G (upd H G (.dK [])) (al.take G) (upd H1 G (.dK ((ss.map sKey).zip us))) al1 := ((ExtG.refl _ _ _).step x1).grow hGr hG1 ⟨fun _ z => (by cases z), fun _ _ z => (by cases z)⟩
      have e0 : Ext0 H1 al1 (upd H1 G (.dK ((ss.map sKey).zip us))) al1 := ext0_mut (.inr hGr) hG1 ⟨fun _ z => (by cases z), fun _ _ z => (by cases z)⟩
      have made := made_dct (kvs := (ss.map sKey).zip us) (ks := ss.map D.str) (vd := ds) m hG gr hGr (m1.grow hGr hG1 ⟨fun _ z => (by cases z), fun _ _ z => (by cases z)⟩) upd_same (by
          rw [show ((ss.map sKey).zip us).map (fun q => kD q.1) = (((ss.map sKey).zip us).map (·.1)).map kD from by rw [List.map_map]; rfl, hmap, List.map_map]
          refine List.map_congr_left fun s _ => ?_
          show D.str (s.toArray.toList) = D.str s
          simp) (fun q hq => by
          have hq1 : q.1 ∈ ((ss.map sKey).zip us).map (·.1) := List.mem_map_of_mem hq
          rw [hmap] at hq1
          obtain ⟨s, hs, e⟩ := List.mem_map.mp hq1
          rw [← e]
          exact hok s hs) (by rw [hmap2]; exact RepVs.ext0 e0 _ _ r1)
      cases mu with
      | false =>
        simp only [Bool.false_eq_true, if_false] at hf
        exact made.1 Q hf
      | true =>
        simp only [if_true] at hf
        exact made.2 (by rw [List.length_map, hds, hs]) Q hf
  exact ⟨core false, core true⟩
theorem se_dct {ss : List (List Nat)} {keys : List (Option Expr)} (h : SD X cf pos ss keys es xs) (hs : ss.length = xs.length := by rfl) (hall : keys.all (·.isSome) = true := by rfl) (hl : keys.length = es.length := by rfl) (h0 : keys ≠ [] := by simp) (h15 : keys.length ≤ 15 := by decide) (hss : ss.length = keys.length := by rfl)
    (nd : (ss.map sKey).Nodup := by decide +kernel) (hok : ∀ s ∈ ss, PyData.strOk ⟨s.toArray⟩ = true := by decide +kernel) : SE X cf (.Dict keys es pos) (.dct false false (ss.map fun s => .k (.str s)) xs) := (se_dct_core h hs hall hl h0 h15 hss nd hok).1
theorem se_dctM {ss : List (List Nat)} {keys : List (Option Expr)} (h : SD X cf pos ss keys es xs) (hs : ss.length = xs.length := by rfl) (hall : keys.all (·.isSome) = true := by rfl) (hl : keys.length = es.length := by rfl) (h0 : keys ≠ [] := by simp) (h15 : keys.length ≤ 15 := by decide) (hss : ss.length = keys.length := by rfl)
    (nd : (ss.map sKey).Nodup := by decide +kernel) (hok : ∀ s ∈ ss, PyData.strOk ⟨s.toArray⟩ = true := by decide +kernel) : SE X cf (.Dict keys es pos) (.dct true false (ss.map fun s => .k (.str s)) xs) := (se_dct_core h hs hall hl h0 h15 hss nd hok).2
end
end MP
set_option Elab.async false
set_option linter.all false
set_option maxRecDepth 100000
set_option autoImplicit false
namespace MP
open PySem PySem.Spec PyProof.Rows L2

/-! ### [.. for k in d ..], d a dict of ours -/
theorem wk_keysK {K : Fr} {H : Hp} {al : Al} {p : Addr} {od : Obj} {kvs : List (Key × V)} {ks : List D} (h : H p = some (.frz od (.dK kvs))) (e : kvs.map (fun q => kD q.1) = ks) (ok : ∀ q ∈ kvs, keyOk q.1) : Wk K H al (.vals ks) (Itk p od kvs) := by
  intro H1 al1 M1 x m _ i
  have h1 := x.frz p _ _ h
  subst e
  refine wit_same (fun d e => ?_) fun e => ?_
  · simp only [itemAt, List.getElem?_map, Option.map_eq_some_iff] at e
    obtain ⟨q, hq, rfl⟩ := e
    refine ⟨⟨h1, (List.getElem?_eq_some_iff.mp hq).1⟩, fun y H' z => ?_⟩
    obtain ⟨rfl, k, v, e1, rfl⟩ := z
    rw [hq] at e1
    cases e1
    exact ⟨rfl, kD_kV (ok _ (List.mem_of_getElem? hq))⟩
  · simp only [itemAt, List.getElem?_map, Option.map_eq_none_iff] at e
    exact ⟨h1, List.getElem?_eq_none_iff.mp e⟩
theorem kDs_kV {K : Fr} {H : Hp} {al : Al} : ∀ {ks : List Key}, (∀ k ∈ ks, keyOk k) → RepVs K H al (ks.map kD) (ks.map kV)
  | [], _ => RepVs.nil
  | k :: r, h => RepVs.cons (kD_kV (h k List.mem_cons_self)) (kDs_kV fun q hq => h q (List.mem_cons_of_mem _ hq))
theorem wk_keysT {K : Fr} {H : Hp} {al : Al} {p : Addr} {od : Obj} {kvs : List (List Key × V)} {ks : List D} (h : H p = some (.frz od (.dT kvs))) (e : kvs.map (fun q => tD q.1) = ks) (ok : ∀ q ∈ kvs, ∀ k ∈ q.1, keyOk k) : Wk K H al (.vals ks) (Itkt p od kvs) := by
  intro H1 al1 M1 x m _ i
  have h1 := x.frz p _ _ h
  subst e
  refine wit_same (fun d e => ?_) fun e => ?_
  · simp only [itemAt, List.getElem?_map, Option.map_eq_some_iff] at e
    obtain ⟨q, hq, rfl⟩ := e
    refine ⟨⟨h1, (List.getElem?_eq_some_iff.mp hq).1⟩, fun y H' z => ?_⟩
    obtain ⟨rfl, k, v, b, e1, rfl, hb⟩ := z
    rw [hq] at e1
    cases e1
    refine ⟨rfl, ?_⟩
    simp only [tD, RepV]
    exact ⟨b, _, rfl, hb, kDs_kV (ok _ (List.mem_of_getElem? hq))⟩
  · simp only [itemAt, List.getElem?_map, Option.map_eq_none_iff] at e
    exact ⟨h1, List.getElem?_eq_none_iff.mp e⟩
/-- the lock is taken off -/
theorem unlock_sub {H : Hp} {al : Al} {p : Addr} {od : Obj} {u : HO} (hm : p ∈ al) (hp : H p = some (.frz od u)) : Sub H al (upd H p u) al := by
  refine ⟨fun q w h hn => ⟨?_, hn⟩, fun q vs h => ?_, fun _ _ h => h⟩
  · have hne : q ≠ p := fun e => hn (e ▸ hm)
    rcases h with h | ⟨o, h⟩
    · exact .inl ((upd_ne hne).trans h)
    · exact .inr ⟨o, (upd_ne hne).trans h⟩
  · have hne : q ≠ p := fun e => by rw [e, hp] at h; cases h
    exact (upd_ne hne).trans h
theorem lock_at {o : Nat} {M : Mem} {tk l b : Bool} {kv : List (D × D)} (h : M[o]? = some (.dct tk kv l)) : lock b o M = M.set o (.dct tk kv b) := by
  unfold lock
  rw [h]
theorem compK_ok {cf : CF} {own : List Nat} {t : Tg} {i : Nat} {ts : List Ex} {x : Ex} {r : Env} {M : Mem} {d : D} {M' : Mem} (h : ev cf (.comp false own t (.keys i) ts x) r M = .ok d M') :
    ∃ o tk kv ds m2, r[i]? = some (some (.obj o)) ∧ M[o]? = some (.dct tk kv false) ∧ compL t (wipeE r own) (fun r m => evTests cf ts r m) (fun r m => ev cf x r m) (kv.map (·.1)) [] (lock true o M) = .ok ds m2 ∧ d = .lst ds ∧ M' = lock false o m2 := by
  simp only [ev, evIt] at h
  split at h
  · rename_i l m1 e
    split at e
    · split at e <;> cases e
    · cases e
  · rename_i l m1 e
    split at e
    · split at e <;> cases e
    · cases e
  · rename_i o m1 e
    split at e
    · rename_i o2 eo
      split at e
      · rename_i e3
        cases e
        split at h
        · rename_i tk kv e4
          split at h
          · rename_i ds m2 e5
            simp only [Bool.false_eq_true, if_false] at h
            cases h
            exact ⟨_, tk, kv, ds, m2, eo, e4, e5, rfl, rfl⟩
          · cases h
        · cases h
      · cases e
    · cases e
  · cases h
section
variable {X : Cx} {cf : CF} {elt tg : Expr} {ifs : List Expr} {scope : Scope} {own : List (Str × Nat)} {pos p : Pos} {t : Tg} {g : L2.TG} {ts : List Ex} {x : Ex}
theorem se_compK (i : Nat) {n : Str} (hc : X.calm = true) (hN : X.N.Nodup) (ok : BlkOk X.N X.env.scope scope own) (hto : ∀ i ∈ tgIs t, i ∈ own.map (·.2)) (hgo : TgOk X.K t g)
    (hg : ∀ (s : Shared) (H : Hp) (C : Addr) (cl : List (Str × Addr)) (fp : List Addr), PG (X.blk s H scope (compEnvC scope cl C X.env) fp) tg g) (ht : ∀ (s : Shared) (H : Hp) (C : Addr) (cl : List (Str × Addr)) (fp : List Addr), SPs (X.blk s H scope (compEnvC scope cl C X.env) fp) cf ifs ts)
    (he : ∀ (s : Shared) (H : Hp) (C : Addr) (cl : List (Str × Addr)) (fp : List Addr), SE (X.blk s H scope (compEnvC scope cl C X.env) fp) cf elt x)
    (hNi : X.N[i]? = some n := by rfl) (hv : Vis X.env.scope n := by first | exact Or.inl rfl | exact Or.inr (Or.inl rfl) | exact Or.inr (Or.inr rfl)) (hd : (n == ("__debug__" : Str)) = false := by decide) (hcd : (n == ("__classdict__" : Str)) = false := by decide)
    (hs : ∀ x, foldedSetIterable (.Name n p) X.env x = pure x := by intro _; rfl) :
    SE X cf (.ListComp elt [⟨tg, .Name n p, ifs, 0⟩] scope pos) (.comp false (own.map (·.2)) t (.keys i) ts x) := by
  refine (pe_lock (pe_lc (tt := tEt X.K fun r M => evTests cf ts r M) (te := tEv X.K fun r M => ev cf x r M) hc hN (pi_keys (pe_var hNi hv hd hcd)) ok hg ht he hs)).imp fun sg H Q h => ?_
  obtain ⟨al, r, M, m, l, hf⟩ := h
  simp only at hf
  obtain ⟨d, M', e⟩ := fe_ok hf
  obtain ⟨o, tk, kv, ds, m2, e1, e2, e3, rfl, rfl⟩ := compK_ok e
  rw [e] at hf
  obtain ⟨v, hv1, rv⟩ := l.2 i _ e1
  obtain ⟨q, u, us, rfl, hi, _, hr, di, rs⟩ := dictM m rv e2
  have hu := hr rfl
  have hq : q ∈ al.objs := List.mem_of_getElem? hi
  refine ⟨q, u, hu, ?_, fun od => ?_⟩
  · cases tk <;> (obtain ⟨_, rfl, _⟩ := di; trivial)
  have x0 : Ext H al (upd H q (.frz od u)) al := ext_mut m hq hu di.not
  rw [lock_at e2] at e3
  have m1 : RepM X.K (upd H q (.frz od u)) al (M.set o (.dct tk kv true)) := by
    refine m.mut hi hu di.not ⟨u, us, ?_, di, RepVs.ext x0 _ _ rs⟩
    rw [if_pos rfl]
    exact ⟨od, upd_same⟩
  -- the end
  have fin : ∀ (G : Addr), (upd H q (.frz od u)) G = none → ∀ H1 al1 vs, ExtG G (upd (upd H q (.frz od u)) G (.lst [])) (al.take G) H1 al1 → G ∈ al1.res → RepM X.K H1 al1 m2 → H1 G = some (.lst vs) → RepVs X.K H1 al1 ds vs → H1 q = some (.frz od u) ∧ Q (.ref G) (upd H1 q u) := by
    intro G hG H1 al1 vs xg hGr mf hl rsf
    have hqG : q ≠ G := fun z => by rw [← z, upd_same] at hG; cases hG
    have hz : H1 q = some (.frz od u) := xg.frz q od u ((upd_ne hqG).trans upd_same)
    refine ⟨hz, ?_⟩
    have hGn := m1.fresh hG
    have kept : ∀ b ∈ al.res, H1 b = (upd H q (.frz od u)) b := fun b hb => by
      have hne : b ≠ G := fun e => hGn (.inr (e ▸ hb))
      rw [xg.kept b (List.mem_cons_of_mem _ hb) hne, upd_ne hne]
    obtain ⟨xe, hno⟩ := ext_made hG hGn xg.toExt0 kept
    have x2 := x0.trans xe
    have res1 : al1.res = G :: al.res := xg.res
    have ea : al1 = (⟨al1.objs, al.res⟩ : Al).take G := by
      cases al1 with
      | mk ob re => simp only [Al.take]; rw [← res1]
    rw [ea] at mf rsf
    have mf := mf.untake
    have rsf := RepVs.untake _ _ rsf
    -- our dict at the end
    have hi2 : al1.objs[o]? = some q := x2.toExt0.sub.objs o q hi
    have hol : o < m2.length := by
      have hlen : al1.objs.length = m2.length := mf.len
      rw [← hlen]; exact (List.getElem?_eq_some_iff.mp hi2).1
    obtain ⟨q', hq', ro⟩ := mf.at_ o _ (List.getElem?_eq_getElem hol)
    have hq'' : al1.objs[o]? = some q' := hq'
    rw [hi2] at hq''
    cases hq''
    have us_ : Sub H1 ⟨al1.objs, al.res⟩ (upd H1 q u) ⟨al1.objs, al.res⟩ := unlock_sub (.inl (List.mem_of_getElem? hi2)) hz
    have hmo : m2[o]? = some m2[o] := List.getElem?_eq_getElem hol
    generalize m2[o] = ob at ro hmo
    cases ob with
    | lst l' =>
      obtain ⟨vs', h1, _⟩ := ro
      rw [hz] at h1; cases h1
    | dct tk2 kv2 lck2 =>
      obtain ⟨u2, us2, h1, h2, h3⟩ := ro
      have h1 : (if lck2 = true then ∃ ob, H1 q = some (.frz ob u2) else H1 q = some u2) := h1
      cases lck2 with
      | false =>
        rw [if_neg Bool.false_ne_true, hz] at h1
        cases h1
        exact absurd rfl (h2.not.2 od u)
      | true =>
        rw [if_pos rfl] at h1
        obtain ⟨ob, h1⟩ := h1
        rw [hz] at h1
        cases h1
        have mu : RepM X.K (upd H1 q u) ⟨al1.objs, al.res⟩ (m2.set o (.dct tk2 kv2 false)) := by
          refine mf.mut0 hi2 (fun d v r => RepV.sub us_ d v r) ⟨u, us2, ?_, h2, RepVs.sub us_ _ _ h3⟩
          rw [if_neg Bool.false_ne_true]
          exact upd_same
        rw [lock_at hmo] at hf
        refine hf ⟨al1.objs, al.res⟩ _ _ ⟨⟨x2.more, x2.res, fun b w hb hn => ?_, fun b w hb z => ?_, fun b w hb => ?_, fun b ob w hb => ?_⟩, fun b hb => ?_⟩ mu ?_
        · rw [upd_ne (fun z => hn (.inl (by rw [z]; exact hq)))]
          exact x2.out b w hb hn
        · by_cases zb : b = q
          · rw [zb, upd_same] at z; cases z
          · rw [upd_ne zb] at z
            exact x2.live b w hb z
        · rw [upd_ne (fun z => by rw [z, hu] at hb; cases hb; exact di.not.1 w rfl)]
          exact x2.tup b w hb
        · rw [upd_ne (fun z => by rw [z, hu] at hb; cases hb; exact di.not.2 ob w rfl)]
          exact x2.frz b ob w hb
        · rw [upd_ne (fun z => (m.rs b hb).2 (by rw [z]; exact hq))]
          exact x2.kept b hb
        · refine RepV.sub us_ _ _ ?_
          simp only [RepV]
          exact ⟨G, vs, rfl, .inl ⟨.inl hl, hno⟩, rsf⟩
  refine ⟨_, hv1, q, od, rfl, ?_⟩
  cases tk with
  | false =>
    obtain ⟨kvs, rfl, k1, k2, k3⟩ := di
    exact .inl ⟨kvs, upd_same, fun G hG => comp_core hgo hto (loopC_vals (ds := kv.map Prod.fst)) (wk_keysK (ks := kv.map Prod.fst) upd_same k1 k3) m1 (l.ext x0) hG (kv.map Prod.fst).length ⟨rfl, Nat.zero_le _, e3⟩ (fin G hG)⟩
  | true =>
    obtain ⟨kvs, rfl, k1, k2, k3⟩ := di
    exact .inr ⟨kvs, upd_same, fun G hG => comp_core hgo hto (loopC_vals (ds := kv.map Prod.fst)) (wk_keysT (ks := kv.map Prod.fst) upd_same k1 k3) m1 (l.ext x0) hG (kv.map Prod.fst).length ⟨rfl, Nat.zero_le _, e3⟩ (fin G hG)⟩
end
end MP
set_option Elab.async false
set_option linter.all false
set_option maxRecDepth 100000
set_option autoImplicit false
namespace MP
open PySem PySem.Spec PyProof.Rows L2

/-! ### {k: v for ..}, the keys tuples; nobody looks at what comes -/
theorem dictSet_tup {X : Cx} {pins : List (Addr × Obj)} {sg : L2.St} {H : Hp} {s : Shared} {E : Value → Shared → Prop} {G b : Addr} {kvs : List (List Key × V)} {k : List Key} {v : V} {u : Value} {Q : Unit → Shared → Prop} (hu : X.A.units + 1 < cLine) (I : Inv X pins sg H s) (e : H G = some (.dT kvs))
    (eb : H b = some (.tup (k.map kV))) (hz : kvs.length < sizeLine) (rv : RelV v u) (h : ∀ s1, Inv X pins sg (upd H G (.dT (L2.putK kvs k v))) s1 → Q () s1) : wpAny (model X.prog X.w) X.A (dictSet G (.ref b) u) Q E s := by
  obtain ⟨z, hd, xs, rel, dd⟩ := dt_of I.hok e
  have hlx : xs.length = kvs.length := (Paired.length rel).symm
  have hlp : (L2.putK kvs k v).length ≤ sizeLine := Nat.le_trans (length_putK kvs k v) hz
  refine wpAny_dictSet_heap (hsz := by rw [hlx]; exact z) (show X.A.units < cLine by omega) (key_of I.hok eb) dd fun h1 dd1 same => h _ ?_
  obtain ⟨ob, es, ep, g1, g2, g3, g4, _, g5⟩ := dd1
  have keep : ∀ c ys, H c = some (.tup ys) → (upd H G (.dT (L2.putK kvs k v))) c = some (.tup ys) := fun c ys ec => by
    rw [upd_ne (ne_of ec e (fun z => nomatch z))]
    exact ec
  exact d_write I (by rw [e]; trivial) same ⟨ob, g1⟩ ⟨hlp, hd, _, (rel.put k eb rv).keeps keep, ob, es, ep, g1, g2, g3, g4, g5⟩
theorem put_len {kvs : List (List Key × V)} {k : List Key} {v : V} : (L2.putK kvs k v).length ≤ kvs.length + 1 := by
  unfold L2.putK
  split
  · rw [List.length_map]; omega
  · rw [List.length_append]; simp

section
variable {X : Cx} {cf : CF} {kx vx tg iter : Expr} {scope : Scope} {own : List (Str × Nat)} {pos : Pos} {t : Tg} {g : L2.TG} {it : It} {xk xv : Ex}
/-- the key, then the value -/
def pairF (cf : CF) (xk xv : Ex) (r : Env) (m : Mem) : R D := match ev cf xk r m with
  | .ok x m1 => if isKey x && isTupKey x then (match ev cf xv r m1 with | .ok y m2 => .ok (.tup [x, y]) m2 | .stop => .stop) else .stop
  | .stop => .stop
theorem pairF_ok {r : Env} {m m' : Mem} {d : D} (h : pairF cf xk xv r m = .ok d m') : ∃ l m1 y, ev cf xk r m = .ok (.tup l) m1 ∧ l.all flat = true ∧ ev cf xv r m1 = .ok y m' := by
  unfold pairF at h
  split at h
  · rename_i x m1 e
    split at h
    · rename_i hk
      split at h
      · rename_i y m2 e2
        cases h
        simp only [Bool.and_eq_true] at hk
        cases x <;> simp [isTupKey] at hk
        rename_i l
        exact ⟨l, m1, y, e, by simpa [isKey] using hk, e2⟩
      · cases h
    · cases h
  · cases h
theorem dcomp_ok {ow : List Nat} {r : Env} {M M' : Mem} {d : D} (h : ev cf (.dcomp ow t it xk xv) r M = .ok d M') : ∃ l M1 ds, evIt cf it r M = .ok (.vals l) M1 ∧ compL t (wipeE r ow) (fun _ m => .ok true m) (pairF cf xk xv) l [] M1 = .ok ds M' ∧ d = .opq := by
  simp only [ev] at h
  split at h
  · rename_i l M1 e
    split at h
    · rename_i ds M2 e2
      cases h
      exact ⟨l, M1, ds, e, e2, rfl⟩
    · cases h
  · cases h
theorem se_dcomp (hu : X.A.units + 1 < cLine) (hc : X.calm = true) (hN : X.N.Nodup) (hi : SI X cf tg iter it) (ok : BlkOk X.N X.env.scope scope own) (hto : ∀ i ∈ tgIs t, i ∈ own.map (·.2)) (hgo : TgOk X.K t g)
    (hg : ∀ (s : Shared) (H : Hp) (C : Addr) (cl : List (Str × Addr)) (fp : List Addr), PG (X.blk s H scope (compEnvC scope cl C X.env) fp) tg g)
    (hk : ∀ (s : Shared) (H : Hp) (C : Addr) (cl : List (Str × Addr)) (fp : List Addr), SE (X.blk s H scope (compEnvC scope cl C X.env) fp) cf kx xk)
    (hv : ∀ (s : Shared) (H : Hp) (C : Addr) (cl : List (Str × Addr)) (fp : List Addr), SE (X.blk s H scope (compEnvC scope cl C X.env) fp) cf vx xv) (hs : ∀ x, foldedSetIterable iter X.env x = pure x := by intro _; rfl) :
    SE X cf (.DictComp kx vx [⟨tg, iter, [], 0⟩] scope pos) (.dcomp (own.map (·.2)) t it xk xv) := by
  constructor
  intro pins s sg H Q I h
  obtain ⟨al, r, M, m, l, hf⟩ := h
  simp only at hf
  obtain ⟨d, MF, e⟩ := fe_ok hf
  obtain ⟨ds, M1, accF, e1, e2, rfl⟩ := dcomp_ok e
  rw [e] at hf
  have cells : ∀ y ∈ scope.names, y.2 = .free → ∃ c, X.env.cells.lookup y.1 = some c := by
    intro y hy ey
    rcases ok.free y hy ey with z | z
    · exact I.ok.has _ (.inl z)
    · exact I.ok.has _ (.inr z)
  -- what is to hold of the walk and the new dict
  have plan : tIt X.K (fun r M => evIt cf it r M) sg H (fun J H1 => ∃ al1, Ext H al H1 al1 ∧ RepM X.K H1 al1 M1 ∧ Wk X.K H1 al1 (.vals ds) J) := ⟨al, r, M, m, l, by
    simp only [e1]
    exact fun al1 H1 J x1 m1 w => ⟨al1, x1, m1, w⟩⟩
  rw [arm_eval_DictComp]
  refine wpAny_comprehension_free (use := none) rfl hs (closure_ok cells) ok.kind (fun y hy ey => by rw [ok.uniq y hy, ey]) (thn (hi.run pins s sg H _ I plan) fun v0 sA hA => thn hA fun itv sB hB => ?_)
  obtain ⟨ia, fp, tn, J, HB, rfl, IB, TU, stB, fB, al1, x1, m1, w⟩ := hB
  refine wpAny_newObj_type (newEnv_comp ?_)
  generalize hG : sB.heap.objs.size = G
  have hGn : HB G = none := IB.hok.fresh (Nat.le_of_eq hG)
  generalize hsC : ({ sB with heap := sB.heap.push { cls := .type "dict", data := .dict #[] } } : Shared) = sC
  have hpC : sC.heap = sB.heap.push { cls := .type "dict", data := .dict #[] } := by rw [← hsC]
  have IC : Inv X pins sg (upd HB G (.dT [])) sC := by
    rw [← hsC]
    refine IB.laid (t' := sB.toks) (fun b o q => Heap.get?_push_of_some _ q) (Nat.le_of_eq hG) ?_
    rw [← hG]
    exact dt_empty sB.heap IB.big
  have fC : ∀ b ∈ fp, FpOk X pins (upd HB G (.dT [])) b ∧ b < sC.heap.objs.size := by
    intro b hb
    obtain ⟨ob, eb, _⟩ := TU.obj _ _ stB b hb
    have lt : b < sB.heap.objs.size := Heap.lt_size eb
    have ne : b ≠ G := by rw [← hG]; exact Nat.ne_of_lt lt
    exact ⟨⟨(upd_ne ne).trans (fB b hb).1, (fB b hb).2⟩, by rw [hpC, Heap.size_push]; exact Nat.lt_succ_of_lt lt⟩
  have stC : tn 0 sC.heap := TU.keep _ _ _ stB fun b _ o q => by rw [hpC]; exact Heap.get?_push_of_some _ q
  have ID := block_start IC ok hN fC
  generalize hcl : cellsFrom (sC.heap.objs.size + 1) scope.names (cloFrom X.env.cells scope.names []) = cl at ID ⊢
  have gT := hg sC (upd HB G (.dT [])) sC.heap.objs.size cl fp
  have gK := hk sC (upd HB G (.dT [])) sC.heap.objs.size cl fp
  have gV := hv sC (upd HB G (.dT [])) sC.heap.objs.size cl fp
  show codeAny _ _ (.compStart (.DictComp kx vx [⟨tg, iter, [], 0⟩] scope pos) 0 (.ref ia) (.ref G) (compEnvC scope cl sC.heap.objs.size X.env)) (compPost (model X.prog X.w) X.A X.xe none _ (.ref G) sC.heap.objs.size) { sC with heap := pushCells (sC.heap.push { cls := .type "dict", data := .dict #[] }) scope.names }
  generalize hHC : upd HB G (.dT []) = HC at IC ID gT gK gV fC
  generalize hce : compEnvC scope cl sC.heap.objs.size X.env = ce at ID gT gK gV ⊢
  have lC : ce.locals = sC.heap.objs.size := by rw [← hce]; rfl
  generalize hsD : ({ sC with heap := pushCells (sC.heap.push { cls := .type "dict", data := .dict #[] }) scope.names } : Shared) = sD at ID ⊢
  have stD : tn 0 sD.heap := TU.keep _ _ _ stC fun b _ o q => by rw [← hsD]; exact pushCells_keeps _ _ _ _ (Heap.get?_push_of_some _ q)
  have fpx : ∀ {sg' : L2.St} {H' : Hp} {s' : Shared}, Inv (X.blk sC HC scope ce fp) [] sg' H' s' → (∀ b ∈ fp, H' b = none) → ∀ b ∈ fp, FpOk (X.blk sC HC scope ce fp) [] H' b := by
    intro sg' H' s' Ix hn b hb
    refine ⟨hn b hb, (Ix.ok.exf b hb).1, Ix.ok.exfs b hb, .inl hb, fun x c q => (Ix.ok.exf b hb).2 x c q, fun p hp => ?_⟩
    exact absurd (show p ∈ ([] : List (Addr × Obj)) ++ [] from hp) (by simp)
  have s0 : SubF HB al1 HC (al1.take G) := by rw [← hHC]; exact subF_take hGn
  have lB : RepL X.K HB al1 r sg := l.ext x1
  -- the state at each turn
  let St1 : Nat → Nat → Hp → Prop := fun i n H' => n = ds.length - i ∧ i ≤ ds.length ∧ ∃ al2 M2 acc kvs, ExtG G HC (al1.take G) H' al2 ∧ G ∈ al2.res ∧ H' G = some (.dT kvs) ∧ kvs.length ≤ acc.length ∧ RepM X.K H' al2 M2 ∧
    compL t (wipeE r (own.map (·.2))) (fun _ m => .ok true m) (pairF cf xk xv) (ds.drop i) acc M2 = .ok accF MF
  have start : St1 0 ds.length HC := by
    refine ⟨rfl, Nat.zero_le _, al1.take G, M1, [], [], ExtG.refl _ _ _, List.mem_cons_self, ?_, Nat.le_refl _, ?_, e2⟩
    · rw [← hHC]; exact upd_same
    · rw [← hHC]; exact m1.take hGn
  have loop : codeAny (model X.prog X.w) X.A (.compLoop (.DictComp kx vx [⟨tg, iter, [], 0⟩] scope pos) 0 (.ref ia) (.ref G) ce) (compPost (model X.prog X.w) X.A X.xe none (EP X pins sg Q) (.ref G) sC.heap.objs.size) sD := by
    refine compLoop_anyD (fun n s' => ∃ i H', Inv (X.blk sC HC scope ce fp) [] (L2.wipe sg (own.map (·.2))) H' s' ∧ tn i s'.heap ∧ (∀ b ∈ fp, H' b = none) ∧ St1 i n H') ?_ ds.length ⟨0, HC, ID, stD, fun b hb => (fC b hb).1.1, start⟩
    rintro n s5 ⟨i, H5, I5, st5, n5, rfl, hile, al2, M2, acc, kvs, xg, hGr, hGd, hkl, mm, run⟩
    have s1 : SubF HB al1 H5 al2 := s0.trans xg.toExt0.subF
    have wi := w H5 al2 M2 s1 mm trivial i
    have ei : itemAt (.vals ds) i M2 = ds[i]? := rfl
    rw [ei] at wi
    cases hd : ds[i]? with
    | none =>
      have hl : ds.length ≤ i := List.getElem?_eq_none_iff.mp hd
      rw [List.drop_eq_nil_of_le hl] at run
      simp only [compL] at run
      cases run
      refine thnF (TU.done (X.blk sC HC scope ce fp) rfl rfl rfl hc i [] s5 _ H5 (fun _ _ => False) I5 (fpx I5 n5) st5 (wi.stop hd)) fun rr s6 q6 => ?_
      obtain ⟨hr, I6⟩ := q6
      subst hr
      have I7 : Inv X pins sg H5 s6 := IC.call' (ch := fp) I6.os I6.base I6.hok I6.bare fun b hb => ⟨(fC b hb).1.2.2.2.1, (fC b hb).1.2.1, (fC b hb).1.2.2.2.2.1, (fC b hb).1.2.2.2.2.2⟩
      have z6 : H5 ce.locals = none := I6.free
      obtain ⟨mp, ns6, _⟩ := I6.loc
      have ns6 : s6.heap.Ns ce.locals mp := ns6
      rw [lC] at z6 ns6
      obtain ⟨q0, q1, q2, q3, q4, q5⟩ := IC.fpOk (Nat.le_refl _) z6
      have hGa := m1.fresh hGn
      have kept : ∀ q ∈ al1.res, H5 q = HB q := fun q hq => by
        have hne : q ≠ G := fun e => hGa (.inr (e ▸ hq))
        rw [xg.kept q (List.mem_cons_of_mem _ hq) hne, ← hHC, upd_ne hne]
      obtain ⟨xe, _⟩ := ext_made hGn hGa (by rw [hHC]; exact xg.toExt0) kept
      have res1 : al2.res = G :: al1.res := xg.res
      have ea : al2 = (⟨al2.objs, al1.res⟩ : Al).take G := by
        cases al2 with
        | mk ob re => simp only [Al.take]; rw [← res1]
      rw [ea] at mm
      refine ⟨mp, ns6, fun h7 sb => ⟨.ref G, H5, I7.turned (t' := s6.toks) (fun b o hb q => (sb.2 b hb).trans q) q0 q1 q3 q4 q5, rfl, hf ⟨al2.objs, al1.res⟩ (.ref G) H5 (x1.trans xe) mm.untake RepV.mkOpq⟩⟩
    | some dd =>
      obtain ⟨hlt, eg⟩ := List.getElem?_eq_some_iff.mp hd
      rw [List.drop_eq_getElem_cons hlt, eg] at run
      simp only [compL] at run
      cases et : tgt t dd (wipeE r (own.map (·.2))) with
      | none => rw [et] at run; cases run
      | some r1 =>
        rw [et] at run
        simp only at run
        cases ef : pairF cf xk xv r1 M2 with
        | stop => rw [ef] at run; cases run
        | ok pr M3 =>
          rw [ef] at run
          simp only at run
          split at run
          · rename_i hz
            obtain ⟨lk, Mk, yv, ek, hfl, evv⟩ := pairF_ok ef
            obtain ⟨go, hy⟩ := wi.go dd hd
            refine thnF (TU.item (X.blk sC HC scope ce fp) rfl rfl rfl hc i [] s5 _ H5 (fun _ _ => False) I5 (fpx I5 n5) st5 go) fun rr s6 q6 => ?_
            obtain ⟨uu, hr, h6⟩ := q6
            subst hr
            refine thnF h6 fun _ s7 q7 => ?_
            obtain ⟨yx, H7, I7, r7, yl, st7, n7⟩ := q7
            obtain ⟨x7, mk7, rv7⟩ := hy yx H7 yl
            have I7p := I7.pinned (fpx I7 n7) (TU.obj _ _ st7)
            have m7 := mk7 M2 mm
            have l7 : RepL X.K H7 al2 (wipeE r (own.map (·.2))) (L2.wipe sg (own.map (·.2))) := (lB.wipe _).sub (s1.toSub.trans x7.toExt0.sub)
            have tgq : g yx (L2.wipe sg (own.map (·.2))) H7 (fun sg8 H8 => H8 = H7 ∧ L2.wipe sg8 (own.map (·.2)) = L2.wipe sg (own.map (·.2)) ∧ RepL X.K H7 al2 r1 sg8) :=
              hgo H7 al2 dd yx _ r1 _ _ rv7 l7 et fun sg8 l8 a1 a2 => ⟨rfl, wipe_again (fun j hj => a1 j fun z => hj (hto j z)) a2, l8⟩
            refine thnF (gT.run _ s7 _ H7 yx uu _ I7p r7 tgq) fun _ s8 q8 => ?_
            obtain ⟨sg8, H8, I8, rfl, hw8, l8⟩ := q8
            refine wpAny_tests_nil ?_
            simp only [if_true]
            have pk : tEv X.K (fun r M => ev cf xk r M) sg8 H8 (fun y H9 => ∃ al9, Ext H8 al2 H9 al9 ∧ RepM X.K H9 al9 Mk ∧ RepL X.K H9 al9 r1 sg8 ∧ RepV X.K H9 al9 (.tup lk) y) := tEv_ok m7 l8 ek fun al9 v9 H9 x9 m9 l9 r9 => ⟨al9, x9, m9, l9, r9⟩
            refine thnF (gK.run _ s8 sg8 H8 _ I8 pk) fun kval s9 q9 => ?_
            obtain ⟨y9, H9, I9, rel9, al9, x9, m9, l9, r9⟩ := q9
            have pv : tEv X.K (fun r M => ev cf xv r M) sg8 H9 (fun y HT => ∃ alT, Ext H9 al9 HT alT ∧ RepM X.K HT alT M3) := tEv_ok m9 l9 evv fun alT vT HT xT mT lT rT => ⟨alT, xT, mT⟩
            refine thnF (gV.run _ s9 sg8 H9 _ I9 pv) fun vval sT qT => ?_
            obtain ⟨yT, HT, IT, relT, alT, xT, mT⟩ := qT
            simp only [RepV] at r9
            obtain ⟨b9, vs9, rfl, hb9, rs9⟩ := r9
            cases rel9
            obtain ⟨ks9, rfl, rfl, _⟩ := kDs_of hfl rs9
            have xall := x7.trans (x9.trans xT)
            have hGT : HT G = some (.dT kvs) := (xall.kept G hGr).trans hGd
            have hbT : HT b9 = some (.tup (ks9.map kV)) := xT.tup _ _ hb9
            have hGrT : G ∈ alT.res := by rw [xall.res]; exact hGr
            have noT : NoT (HO.dT kvs) := ⟨fun _ z => (by cases z), fun _ _ z => (by cases z)⟩
            refine dictSet_tup (X := X.blk sC HC scope ce fp) hu IT hGT hbT (by have := line_eq; omega) relT fun sU IU => ?_
            refine ⟨ds.length - (i + 1), by omega, i + 1, _, (IU.unpinned (pins := [])).weak (by rw [← hw8, wipe_length]) (fun j v ej => ?_), TU.keep _ _ _ st7 fun b hb o eb => ?_, fun b hb => ?_, rfl, hlt, alT, M3, acc ++ [pr], _, (xg.step xall).grow hGrT hGT noT, hGrT, upd_same, ?_, mT.grow hGrT hGT noT, run⟩
            · rw [← hw8] at ej
              exact (wipe_some ej).1
            · exact (IU.pin (b, o) (List.mem_append_right _ (List.mem_append_right _ (mem_pinsAt hb eb)))).1
            · obtain ⟨o, eb, _⟩ := TU.obj _ _ st7 b hb
              exact (IU.pin (b, o) (List.mem_append_right _ (List.mem_append_right _ (mem_pinsAt hb eb)))).2.1
            · have := put_len (kvs := kvs) (k := ks9) (v := yT)
              rw [List.length_append, List.length_singleton]
              omega
          · cases run
  exact codeAny_compStart_dict loop (TU.self X.A 0 _ _ _ stD loop)
end
end MP
set_option Elab.async false
set_option linter.all false
set_option maxRecDepth 100000
set_option autoImplicit false
namespace MP
open PySem PySem.Spec PyProof.Rows L2

/-! ### a def of the table -/
section
variable {P : Program} {w : World} {K : Fr} {mg : Str → Option Value} {base : Heap}
theorem fn_zero {f : Addr} {fd : FuncData} {ps : List Str} {T : List Fn} {i : Nat} : FnG P w K mg base CX0 0 f fd ps (spOf K (callN T 0) i ps.length) :=
  ⟨fun vs H Q E h => h.1, fun A outer s H args us vs Q E _ _ _ _ _ h => by
    obtain ⟨_, al, M, ds, _, _, hf⟩ := h
    exact hf.elim⟩
theorem start_rep {H : Hp} {al : Al} {ds : List D} {vs : List V} {N : List Str} {k : Nat} (r : RepVs K H al ds vs) (hk : k = ds.length) : RepL K H al (ds.map some ++ List.replicate (N.length - k) none) (L2.start N vs) := by
  have hl := r.length
  refine ⟨by unfold L2.start; simp [hl, hk], fun j d e => ?_⟩
  by_cases hj : j < ds.length
  · rw [List.getElem?_append_left (by simpa using hj), List.getElem?_map] at e
    cases ed : ds[j]? with
    | none => rw [ed] at e; cases e
    | some d' =>
      rw [ed] at e
      cases e
      obtain ⟨v, h1, h2⟩ := r.get ed
      refine ⟨v, ?_, h2⟩
      unfold L2.start
      rw [List.getElem?_append_left (by rw [List.length_map]; omega), List.getElem?_map, h1]
      rfl
  · rw [List.getElem?_append_right (by simp; omega), List.getElem?_replicate] at e
    split at e <;> cases e
/-- from what is known of the callees at level n: the def at level n + 1 -/
theorem fn_step {name : Str} {st : Stmt} {f : Addr} {fd : FuncData} {N ps : List Str} {n i : Nat} {T : List Fn} {c : List St} (F : Fun K name name st f fd) (S : FnScope N ps (defScope st)) (hT : T[i]? = some ⟨ps.length, N.length, c⟩)
    (body : ∀ (cdv : Value) (A : Around) (outer : List PySem.Env) (s : Shared) (H : Hp) (E : XK), Room n (A.deeper (envOfC name (defScope st) s.heap.objs.size f cdv)) → (A.deeper (envOfC name (defScope st) s.heap.objs.size f cdv)).guards = some [] →
      SSs (cxOf CX0 P w K mg base N name (defScope st) f cdv A outer s H E).nox (callN T n) (defBody st) c) : FnG P w K mg base CX0 (n + 1) f fd ps (spOf K (callN T (n + 1)) i ps.length) := by
  obtain ⟨oc, od, kV, doc, pm, an, cdv, ct, osl, rfl, lk, hcd⟩ := F.ex
  refine fn_ofG lk hcd S (fun vs H Q E h => h.1) fun A outer s H vs Q E hgd hr hsp => ?_
  obtain ⟨hl, al, M, ds, m, r, hf⟩ := hsp
  have hlen := r.length
  refine ⟨_, (body cdv A outer s H E hr hgd).nox, al, ds.map some ++ List.replicate (N.length - ps.length) none, M, m, start_rep r (by omega), ?_⟩
  simp only [callN, hT, runFn] at hf
  rw [if_pos (by omega)] at hf
  simp only
  cases e : evSs (callN T n) c (ds.map some ++ List.replicate (N.length - ps.length) none) M with
  | nx r1 M1 =>
    rw [e] at hf
    exact fun al1 sg1 H1 x1 m1 l1 => hf al1 .non H1 x1 m1 RepV.mkNon
  | rt d M1 =>
    rw [e] at hf
    exact fun al1 v H1 x1 m1 r1 => hf al1 v H1 x1 m1 r1
  | bk r1 M1 => rw [e] at hf; exact hf.elim
  | ct r1 M1 => rw [e] at hf; exact hf.elim
  | stop => rw [e] at hf; exact hf.elim
/-- a def of the text, as the top has made it -/
structure Df (K : Fr) (mg : Str → Option Value) (name : Str) (st : Stmt) (ps : List Str) : Prop where
  ex : ∃ f fd, Fun K name name st f fd ∧ mg name = some (.ref f) ∧ Binds K fd ps []
/-- .. and its promise -/
structure OkN (P : Program) (w : World) (K : Fr) (mg : Str → Option Value) (base : Heap) (T : List Fn) (n i : Nat) (name : Str) (st : Stmt) (ps : List Str) : Prop where
  ex : ∃ f fd, Fun K name name st f fd ∧ mg name = some (.ref f) ∧ Binds K fd ps [] ∧ FnG P w K mg base CX0 n f fd ps (spOf K (callN T n) i ps.length)
theorem OkN.zero {T : List Fn} {i : Nat} {name : Str} {st : Stmt} {ps : List Str} (d : Df K mg name st ps) : OkN P w K mg base T 0 i name st ps := by
  obtain ⟨f, fd, F, hm, hb⟩ := d.ex
  exact ⟨f, fd, F, hm, hb, fn_zero⟩
theorem OkN.callee {T : List Fn} {n i : Nat} {name : Str} {st : Stmt} {ps : List Str} {A : Around} (o : OkN P w K mg base T n i name st ps) (hr : Room n A) (hg : A.guards = some []) : Callee P w K mg base A (callN T n) name i ps.length := by
  obtain ⟨f, fd, F, hm, hb, G⟩ := o.ex
  exact ⟨⟨f, fd, ps, n, G, hr, hm, F.kp, hb⟩, hg⟩
theorem OkN.succ {T : List Fn} {n i : Nat} {name : Str} {st : Stmt} {ps N : List Str} {c : List St} (d : Df K mg name st ps) (S : FnScope N ps (defScope st)) (hT : T[i]? = some ⟨ps.length, N.length, c⟩)
    (body : ∀ (f : Addr) (cdv : Value) (A : Around) (outer : List PySem.Env) (s : Shared) (H : Hp) (E : XK), Room n (A.deeper (envOfC name (defScope st) s.heap.objs.size f cdv)) → (A.deeper (envOfC name (defScope st) s.heap.objs.size f cdv)).guards = some [] →
      SSs (cxOf CX0 P w K mg base N name (defScope st) f cdv A outer s H E).nox (callN T n) (defBody st) c) : OkN P w K mg base T (n + 1) i name st ps := by
  obtain ⟨f, fd, F, hm, hb⟩ := d.ex
  exact ⟨f, fd, F, hm, hb, fn_step F S hT (body f)⟩
end
theorem room_hu {A : Around} {k : Nat} (hr : Room k A) : A.units + 70 < cLine := by have := hr.un; omega

/-! ### the law's call -/
theorem law_callG {P : Program} {w : World} {K : Fr} {mg mb : Str → Option Value} {k : Nat} {fa a : Addr} {fd : FuncData} {x : Str} {sp : Sp} {s1 : Shared} {vs : List Value} {ns : List Int}
    (KX : K.In s1.heap) (hns : s1.heap.Ns mainGlobals mg) (hb : s1.heap.Ns builtinsNs mb) (hbb : ∀ x : Str, x ≠ "__name__" → mb x = bootBuiltins x) (hlim : s1.heap.NoLimit) (hg : s1.gens = #[])
    (ha : s1.heap.get? a = some { cls := .type "list", data := .seq vs.toArray }) (hi : IntsAre vs ns) (hl : ns.length ≤ sizeLine) (hr : Room k callerA)
    (F : ∀ base : Heap, K.In base → base.Ns mainGlobals mg → FnG P w K mg base CX0 k fa fd [x] sp) (hbind : ∀ (s : Shared) (u : Value), BindsTo s fd ⟨[u], []⟩ [(x, u)])
    (hsp : ∀ H : Hp, SqL K H a (ns.map V.int) → sp [.ref a] H (fun v _ => v = .bl true) fun _ _ _ => False) :
    codeAny (model P w) callerA (.call (.ref fa) ⟨[.ref a], []⟩) (fun r s' => r = .ok (.ret (.bool true)) ∧ OldK s1.heap s'.heap ∧ s'.os = s1.os ∧ AllBare s'.gens) s1 := by
  have rints := vals_ints hi
  have hlv := hi.length
  let scriptO : Obj := { cls := .type "list", data := .seq vs.toArray }
  -- H tracks nothing but, perhaps, the script
  have core : ∀ H : Hp, (∀ b u, H b = some u → b = a ∧ u = .frz scriptO (.lst (ns.map V.int)) ∧ K.lookup a = none) → SqL K H a (ns.map V.int) → HOk P w H s1.heap →
      codeAny (model P w) callerA (.call (.ref fa) ⟨[.ref a], []⟩) (fun r s' => r = .ok (.ret (.bool true)) ∧ OldK s1.heap s'.heap ∧ s'.os = s1.os ∧ AllBare s'.gens) s1 := by
    intro H only hS hok
    have out : ∀ {b : Addr} {o : Obj}, s1.heap.get? b = some o → ((∀ v n, o.data ≠ .seq v n) ∨ K.lookup b = some o) → H b = none := fun {b o} eb why => by
      cases q : H b with
      | none => rfl
      | some u =>
        obtain ⟨rfl, _, hk⟩ := only b u q
        rw [ha] at eb
        cases eb
        rcases why with z | z
        · exact absurd rfl (z _ _)
        · rw [hk] at z; cases z
    have keepNs : ∀ {b : Addr} {m : Str → Option Value}, s1.heap.Ns b m → (hidT s1.heap H).Ns b m := fun {b m} ⟨o, es, ep, eb, ed, rest⟩ =>
      ⟨o, es, ep, hidT_get eb (out eb (.inl fun v n z => by rw [ed] at z; cases z)), ed, rest⟩
    have inB : K.In (hidT s1.heap H) := fun b o eb => hidT_get (KX b o eb) (out (KX b o eb) (.inr eb))
    have modB : Mod K mg (hidT s1.heap H) := ⟨inB, keepNs hns, ⟨mb, keepNs hb, hbb⟩, by
      obtain ⟨mc, c1, c2⟩ := hlim
      exact ⟨mc, keepNs c1, c2⟩⟩
    have env : Env0 P w K mg (hidT s1.heap H) callerA [] s1 H := ⟨rfl, modB, fun b o eb => of_hidT eb, Nat.le_of_eq (hidT_size _ _), trivial, fun b z => (by cases z), hok, .of_eq hg⟩
    have go := (F _ inB (keepNs hns)).run callerA [] s1 H ⟨[.ref a], []⟩ [.ref a] [.ref a] _ _ rfl hr env (hbind s1 (.ref a)) (.cons rfl .nil) (hsp H hS)
    refine codeAny_mono go fun res s2 h2 => ?_
    cases res with
    | error er => exact h2.elim
    | ok fl =>
      cases fl with
      | ret u =>
        obtain ⟨v, H2, eos, bare, un, hok2, rv, hv⟩ := h2
        have hv : v = .bl true := hv
        subst hv
        have ru : u = Value.bool true := rv
        subst ru
        refine ⟨rfl, OldK.of_keep fun b o eb => ?_, eos, bare⟩
        cases q : H b with
        | none => exact un.keep b o eb q (fun z => (by cases z)) (fun z => (by cases z))
        | some u =>
          obtain ⟨rfl, rfl, _⟩ := only b u q
          obtain ⟨g1, _⟩ := hok2 b _ (un.frzs b _ _ q)
          rw [ha] at eb
          cases eb
          exact g1
      | _ => exact h2.elim
  cases hk : K.lookup a with
  | some o =>
    have eo := KX a o hk
    rw [ha] at eo
    cases eo
    exact core (fun _ => none) (fun b u z => by cases z) (.inr ⟨_, vs.toArray, _, hk, rfl, rfl, rfl, by rw [List.size_toArray, hlv]; exact hl, by simpa using rints⟩) (fun b u z => by cases z)
  | none =>
    have at_ : ∀ b u, (upd (fun _ => none) a (.frz scriptO (.lst (ns.map V.int))) : Hp) b = some u → b = a ∧ u = .frz scriptO (.lst (ns.map V.int)) := fun b u z => by
      by_cases hb : b = a
      · subst hb
        rw [upd_same] at z
        cases z
        exact ⟨rfl, rfl⟩
      · rw [upd_ne hb] at z; cases z
    refine core (upd (fun _ => none) a (.frz scriptO (.lst (ns.map V.int)))) (fun b u z => ⟨(at_ b u z).1, (at_ b u z).2, hk⟩) (.inl (.inr ⟨scriptO, upd_same⟩)) fun b u z => ?_
    obtain ⟨rfl, rfl⟩ := at_ b u z
    exact ⟨ha, by rw [List.length_map]; exact hl, vs, _, rints, ha⟩
/-- the law's script as a datum -/
theorem script_rep {K : Fr} {H : Hp} {a : Addr} {ns : List Int} (h : SqL K H a (ns.map V.int)) : RepM K H ⟨[], []⟩ [] ∧ RepV K H ⟨[], []⟩ (.lst (ns.map D.int)) (.ref a) := by
  have nomem : ∀ p : Addr, p ∉ (⟨[], []⟩ : Al) := fun p z => by rcases z with z | z <;> cases z
  refine ⟨⟨rfl, List.nodup_nil, fun i o e => by simp at e, fun q z => by cases z⟩, ?_⟩
  simp only [RepV]
  refine ⟨a, ns.map V.int, rfl, ?_, ?_⟩
  · rcases h with h | h
    · exact .inl ⟨h, nomem a⟩
    · exact .inr h
  · clear h
    induction ns with
    | nil => exact RepVs.nil
    | cons n r ih => exact RepVs.cons (RepV.mkInt n) ih
/-- the end of k_head, by a table of defs whose evaluation says True -/
theorem walkG {l : PySem.W.OpenLaw} {n k i : Nat} {q : Program} {loose : List Str} {XP : (Str → Option Value) → Heap → Prop} {YP : World → Heap → Prop} {d : DefRec} {K : Params → Fr} {T : List Fn} {st : Stmt} {x : Str}
    (hn : l.most = some n) (hn2 : n ≤ sizeLine) (hdf : d.params.defaults = []) (hr : Room k callerA) (hY : ∀ (w : World) (h : Heap), YP w h → (K w.params).In h)
    (F : ∀ (w : World) (mg : Str → Option Value) (h : Heap), (K w.params).In h → h.Ns mainGlobals mg → ∃ (f : Addr) (fd : FuncData), mg d.name = some (.ref f) ∧ (∀ (s : Shared) (u : Value), BindsTo s fd ⟨[u], []⟩ [(x, u)]) ∧
      ∀ base : Heap, (K w.params).In base → base.Ns mainGlobals mg → FnG l.prog w (K w.params) mg base CX0 k f fd [x] (spOf (K w.params) (callN T k) i 1))
    (law : ∀ ns : List Int, ns.length ≤ n → ∃ M, callN T k i [.lst (ns.map D.int)] [] = .ok (.bl true) M) :
    PySem.W.WalkO q loose XP YP l.row.toRowW d [] (fun f vs => PySem.call f vs) := by
  refine Att.attach_call hn hdf fun w s0 s1 mg mb fa o pm cd doc a vs ns G Y ho hd hcd hmg hobj hints hlen hgens => ?_
  have KX := hY w _ Y
  obtain ⟨f, fd, hm, hb, hF⟩ := F w mg _ KX G.T.g
  rw [hmg] at hm
  cases hm
  refine law_callG KX G.T.g G.T.b G.T.builtins G.T.nolimit hgens hobj hints (Nat.le_trans hlen hn2) hr hF hb fun H hS => ?_
  obtain ⟨M, e⟩ := law ns hlen
  obtain ⟨m, r⟩ := script_rep hS
  refine ⟨rfl, ⟨[], []⟩, [], [.lst (ns.map D.int)], m, RepVs.one r, ?_⟩
  rw [e]
  intro al1 v H1 _ _ rv
  simpa only [RepV] using rv
end MP
set_option Elab.async false
set_option linter.all false
set_option maxRecDepth 100000
set_option autoImplicit false
namespace MP
open PySem PySem.Spec PyProof.Rows L2
section
variable {X : Cx} {cf : CF} {tg : Expr} {es : List Expr} {xs : List Ex} {pos pt2 : Pos} {k2 : Nat} {is : List Nat} {g : L2.TG}
/-- a, b = x, y by way of a tuple -/
theorem ss_parT (hg : TgR X tg (.tup is) g) (ha : SA X cf es xs) (hz : xs.length ≤ 1000 := by decide) (hs : swapsWithSole [tg] (.Tuple es k2 pt2) pos.line X.env = pure false := by rfl) (hw : swappedStores [tg] (.Tuple es k2 pt2) X.env = pure none := by rfl)
    (h1 : (assignEach [tg] X.env).map (·.2) = [assign tg X.env] := by rfl) : SS X cf (.Assign [tg] (.Tuple es k2 pt2) pos) (.par is xs) :=
  (ps_asg (pe_tup ha) hg.pg hs hw h1).imp fun D sg H h => by
    obtain ⟨al, r, M, m, l, hf⟩ := h
    simp only [evS] at hf
    cases e1 : evs cf xs r M with
    | stop => rw [e1] at hf; exact hf.elim
    | ok ds M1 =>
      rw [e1] at hf
      have hl := evs_len _ _ _ _ _ e1
      simp only at hf
      split at hf
      · rename_i hlen
        refine tEa_ok m l e1 fun al1 vs H1 x1 m1 l1 r1 => ⟨?_, fun p hp => ?_⟩
        · rw [r1.length, hl]
          exact Nat.le_of_lt (small1000 hz)
        have x2 : Ext H1 al1 (upd H1 p (.tup vs)) al1 := ext_new hp (m1.fresh hp)
        have rv : RepV X.K (upd H1 p (.tup vs)) al1 (.tup ds) (.ref p) := by
          simp only [RepV]
          exact ⟨p, vs, rfl, upd_same, RepVs.ext x2 _ _ r1⟩
        refine hg.ok _ al1 (.tup ds) _ r (setAll is ds r) sg _ rv (l1.ext x2) ?_ fun sg1 l2 _ _ => hf al1 sg1 _ (x1.trans x2) (m1.new hp) l2
        show (if is.length = ds.length then some (setAll is ds r) else none) = some (setAll is ds r)
        rw [if_pos hlen]
      · exact hf.elim
end
end MP
namespace K96
open MP
def s_list : List Nat := [108, 105, 115, 116]
def s_row : List Nat := [114, 111, 119]
def s_word : List Nat := [119, 111, 114, 100]
def s_leaf : List Nat := [108, 101, 97, 102]
def s_aliases : List Nat := [97, 108, 105, 97, 115, 101, 115]
def s__ : List Nat := [38]
def s_names : List Nat := [110, 97, 109, 101, 115]
def s___1 : List Nat := [95]
def s_literals : List Nat := [108, 105, 116, 101, 114, 97, 108, 115]
def s_likes : List Nat := [108, 105, 107, 101, 115]
def s_path : List Nat := [112, 97, 116, 104]
def s_fresh : List Nat := [102, 114, 101, 115, 104]
def s_env : List Nat := [101, 110, 118]
def s_pattern : List Nat := [112, 97, 116, 116, 101, 114, 110]
def s_template : List Nat := [116, 101, 109, 112, 108, 97, 116, 101]
def s_left : List Nat := [108, 101, 102, 116]
def s_seed : List Nat := [115, 101, 101, 100]
def s_cells : List Nat := [99, 101, 108, 108, 115]
def s_spot : List Nat := [115, 112, 111, 116]
def s_next : List Nat := [110, 101, 120, 116]
def s_name : List Nat := [110, 97, 109, 101]
def s_p : List Nat := [112]
def s_lit : List Nat := [108, 105, 116]
def s_new : List Nat := [110, 101, 119]
def s_p1 : List Nat := [112, 49]
def s_p2 : List Nat := [112, 50]
def s_p3 : List Nat := [112, 51]
def s_other : List Nat := [111, 116, 104, 101, 114]
def s_a : List Nat := [97]

/-- is_list: 0 value -/
def c_is_list : List St := [
  .ite (.or (.not (.isin (.v 0) .tuple)) (.or (.cmp .ne (.bi .len [(.v 0)]) (.k (.int 3))) (.not (.isin (.ix (.v 0) (.k (.int 0))) .str)))) [
    .ret (.k (.bl false))] [],
  .ret (.and (.cmp .eq (.ix (.v 0) (.k (.int 0))) (.k (.str s_list))) (.and (.isin (.ix (.v 0) (.k (.int 1))) .tuple) (.cmp .gt (.bi .len [(.ix (.v 0) (.k (.int 1)))]) (.k (.int 0)))))]

/-- node_of: 0 datum 1 path 2 items 3 end 4 at 5 item -/
def c_node_of : List St := [
  .ite (.call 0 [(.v 0)]) [
    .set 2 (.bi .tuple [(.comp false [4, 5] (.tup [4, 5]) (.enum (.ix (.v 0) (.k (.int 1)))) [] (.call 1 [(.v 5), (.bin .add (.v 1) (.tup [(.v 4)]))]))]),
    .set 3 (.ite (.cmp .eq (.ix (.v 0) (.k (.int 2))) (.tup [])) (.v 1) (.bin .add (.v 1) (.tup [(.bi .len [(.v 2)])]))),
    .ret (.tup [(.k (.str s_row)), (.v 2), (.call 1 [(.ix (.v 0) (.k (.int 2))), (.v 3)]), (.v 1)])] [],
  .ite (.and (.isin (.v 0) .tuple) (.cmp .ne (.v 0) (.tup []))) [
    .ret (.tup [(.k (.str s_word)), (.ix (.v 0) (.k (.int 1))), (.v 1), (.v 1)])] [],
  .ret (.tup [(.k (.str s_leaf)), (.v 0), (.v 1)])]

/-- path_of: 0 node -/
def c_path_of : List St := [
  .ret (.ite (.cmp .eq (.ix (.v 0) (.k (.int 0))) (.k (.str s_row))) (.ix (.v 0) (.k (.int 3))) (.ix (.v 0) (.k (.int 2))))]

/-- letters: 0 aliases 1 key -/
def c_letters : List St := [
  .while (.not (.isin (.v 1) .str)) [
    .set 1 (.ix (.ix (.v 0) (.v 1)) (.k (.int 0)))],
  .ret (.v 1)]

/-- words_in: 0 node 1 found 2 stack 3 here -/
def c_words_in : List St := [
  .par [1, 2] [(.lst true []), (.lst true [(.v 0)])],
  .while (.v 2) [
    .set 3 (.me .pop (.v 2) []),
    .ite (.cmp .eq (.ix (.v 3) (.k (.int 0))) (.k (.str s_word))) [
      .ex (.me .append (.v 1) [(.v 3)])] [
      .ite (.cmp .eq (.ix (.v 3) (.k (.int 0))) (.k (.str s_row))) [
        .ex (.me .append (.v 2) [(.ix (.v 3) (.k (.int 2)))]),
        .ex (.me .extend (.v 2) [(.rev (.ix (.v 3) (.k (.int 1))))])] []]],
  .ret (.v 1)]

/-- is_mark: 0 rule 1 node -/
def c_is_mark : List St := [
  .ret (.and (.cmp .eq (.ix (.v 1) (.k (.int 0))) (.k (.str s_word))) (.cmp .eq (.call 3 [(.ix (.v 0) (.k (.str s_aliases))), (.ix (.v 1) (.k (.int 1)))]) (.k (.str s__))))]

/-- is_plain_tail: 0 node -/
def c_is_plain_tail : List St := [
  .ret (.and (.cmp .eq (.ix (.v 0) (.k (.int 0))) (.k (.str s_leaf))) (.cmp .eq (.ix (.v 0) (.k (.int 1))) (.tup [])))]

/-- pattern_fault: 0 rule 1 node 2 depth 3 word -/
def c_pattern_fault : List St := [
  .ite (.cmp .eq (.ix (.v 1) (.k (.int 0))) (.k (.str s_leaf))) [
    .ret (.k .non)] [],
  .ite (.cmp .eq (.ix (.v 1) (.k (.int 0))) (.k (.str s_row))) [
    .ret (.call 8 [(.v 0), (.ix (.v 1) (.k (.int 1))), (.ix (.v 1) (.k (.int 2))), (.v 2)])] [],
  .set 3 (.call 3 [(.ix (.v 0) (.k (.str s_aliases))), (.ix (.v 1) (.k (.int 1)))]),
  .ite (.or (.cmp .eq (.v 3) (.k (.str s__))) (.cmp .mem (.ix (.v 1) (.k (.int 1))) (.ix (.v 0) (.k (.str s_names))))) [
    .ret (.ix (.v 1) (.k (.int 2)))] [],
  .ite (.and (.cmp .nmem (.ix (.v 1) (.k (.int 1))) (.ix (.v 0) (.k (.str s_literals)))) (.cmp .ne (.v 3) (.k (.str s___1)))) [
    .setix (.ix (.v 0) (.k (.str s_names))) (.ix (.v 1) (.k (.int 1))) (.v 2)] [],
  .ret (.k .non)]

/-- row_fault: 0 rule 1 items 2 tail 3 depth 4 repeats 5 at 6 node 7 is_repeated 8 fault -/
def c_row_fault : List St := [
  .set 4 (.k (.int 0)),
  .for (.tup [5, 6]) (.enum (.v 1)) [
    .ite (.call 5 [(.v 0), (.v 6)]) [
      .ite (.or (.cmp .eq (.v 5) (.k (.int 0))) (.cmp .gt (.v 4) (.k (.int 0)))) [
        .ret (.ix (.v 6) (.k (.int 2)))] [],
      .set 4 (.bin .add (.v 4) (.k (.int 1)))] [
      .set 7 (.and (.cmp .lt (.bin .add (.v 5) (.k (.int 1))) (.bi .len [(.v 1)])) (.call 5 [(.v 0), (.ix (.v 1) (.bin .add (.v 5) (.k (.int 1))))])),
      .set 8 (.call 7 [(.v 0), (.v 6), (.bin .add (.v 3) (.ite (.v 7) (.k (.int 1)) (.k (.int 0))))]),
      .ite (.notN (.v 8)) [
        .ret (.v 8)] []]],
  .ret (.call 7 [(.v 0), (.v 2), (.v 3)])]

/-- whole_fault: 0 rule 1 pattern -/
def c_whole_fault : List St := [
  .ite (.cmp .ne (.ix (.v 1) (.k (.int 0))) (.k (.str s_row))) [
    .ret (.call 2 [(.v 1)])] [],
  .ret (.call 8 [(.v 0), (.sl (.ix (.v 1) (.k (.int 1))) [(.k (.int 1))] []), (.ix (.v 1) (.k (.int 2))), (.k (.int 0))])]

/-- is_as_it_is: 0 rule 1 node -/
def c_is_as_it_is : List St := [
  .ret (.and (.cmp .eq (.bi .len [(.ix (.v 1) (.k (.int 1)))]) (.k (.int 2))) (.and (.call 5 [(.v 0), (.ix (.ix (.v 1) (.k (.int 1))) (.k (.int 0)))]) (.call 6 [(.ix (.v 1) (.k (.int 2)))])))]

/-- has_name: 0 rule 1 node 2 word -/
def c_has_name : List St := [
  .ret (.cmp .gt (.bi .len [(.comp false [2] (.v 2) (.seq (.call 4 [(.v 1)])) [(.cmp .mem (.ix (.v 2) (.k (.int 1))) (.ix (.v 0) (.k (.str s_names))))] (.v 2))]) (.k (.int 0)))]

/-- template_fault: 0 rule 1 node 2 depth 3 is_bare 4 items 5 at 6 item 7 is_repeated 8 fault -/
def c_template_fault : List St := [
  .ite (.cmp .eq (.ix (.v 1) (.k (.int 0))) (.k (.str s_leaf))) [
    .ret (.k .non)] [],
  .ite (.cmp .eq (.ix (.v 1) (.k (.int 0))) (.k (.str s_word))) [
    .ite (.cmp .mem (.ix (.v 1) (.k (.int 1))) (.ix (.v 0) (.k (.str s_names)))) [
      .ret (.ite (.cmp .eq (.ix (.ix (.v 0) (.k (.str s_names))) (.ix (.v 1) (.k (.int 1)))) (.v 2)) (.k .non) (.ix (.v 1) (.k (.int 2))))] [],
    .ret (.ite (.and (.not (.v 3)) (.call 5 [(.v 0), (.v 1)])) (.ix (.v 1) (.k (.int 2))) (.k .non))] [],
  .ite (.and (.not (.v 3)) (.call 10 [(.v 0), (.v 1)])) [
    .ret (.call 12 [(.v 0), (.ix (.ix (.v 1) (.k (.int 1))) (.k (.int 1))), (.v 2), (.k (.bl true))])] [],
  .set 4 (.ix (.v 1) (.k (.int 1))),
  .for (.tup [5, 6]) (.enum (.v 4)) [
    .ite (.and (.not (.v 3)) (.call 5 [(.v 0), (.v 6)])) [
      .ite (.or (.cmp .eq (.v 5) (.k (.int 0))) (.call 5 [(.v 0), (.ix (.v 4) (.bin .sub (.v 5) (.k (.int 1))))])) [
        .ret (.call 2 [(.v 6)])] []] [
      .set 7 (.and (.not (.v 3)) (.and (.cmp .lt (.bin .add (.v 5) (.k (.int 1))) (.bi .len [(.v 4)])) (.call 5 [(.v 0), (.ix (.v 4) (.bin .add (.v 5) (.k (.int 1))))]))),
      .ite (.and (.v 7) (.not (.call 11 [(.v 0), (.v 6)]))) [
        .ret (.call 2 [(.v 6)])] [],
      .set 8 (.call 12 [(.v 0), (.v 6), (.bin .add (.v 2) (.ite (.v 7) (.k (.int 1)) (.k (.int 0)))), (.v 3)]),
      .ite (.notN (.v 8)) [
        .ret (.v 8)] []]],
  .ret (.call 12 [(.v 0), (.ix (.v 1) (.k (.int 2))), (.v 2), (.v 3)])]

/-- plain_rule: 0 literals 1 word -/
def c_plain_rule : List St := [
  .ret (.dct false false [(.k (.str s_aliases)), (.k (.str s_literals)), (.k (.str s_names)), (.k (.str s_likes)), (.k (.str s_path)), (.k (.str s_fresh)), (.k (.str s_env))] [(.dct false false [] []), (.v 0), (.dct true false [] []), (.dcomp [1] (.v 1) (.seq (.v 0)) (.tup [(.v 1), (.v 1)]) (.k (.bl true))), (.tup []), (.k .non), (.tup [])])]

/-- rule_fault: 0 literals 1 pattern 2 template 3 rule 4 fault -/
def c_rule_fault : List St := [
  .set 3 (.call 13 [(.v 0)]),
  .set 4 (.call 9 [(.v 3), (.call 1 [(.v 1), (.tup [])])]),
  .ite (.notN (.v 4)) [
    .ret (.tup [(.k (.str s_pattern)), (.v 4)])] [],
  .set 4 (.call 12 [(.v 3), (.call 1 [(.v 2), (.tup [])]), (.k (.int 0)), (.k (.bl false))]),
  .ret (.ite (.isN (.v 4)) (.k .non) (.tup [(.k (.str s_template)), (.v 4)]))]

/-- looked_at: 0 literals 1 pattern 2 rule -/
def c_looked_at : List St := [
  .set 2 (.call 13 [(.v 0)]),
  .ex (.call 9 [(.v 2), (.call 1 [(.v 1), (.tup [])])]),
  .ret (.v 2)]

/-- pattern_names: 0 literals 1 pattern -/
def c_pattern_names : List St := [
  .ret (.bi .tuple [(.bi .items [(.ix (.call 15 [(.v 0), (.v 1)]) (.k (.str s_names)))])])]

/-- _law_begun: 0 script 1 k 2 cells 3 great 4 begun 5 cell -/
def c__law_begun : List St := [
  .set 2 (.bin .add (.sl (.v 0) [(.v 1)] []) (.sl (.v 0) [] [(.v 1)])),
  .set 3 (.comp false [5] (.v 5) (.seq (.v 0)) [(.cmp .ge (.v 5) (.bin .pow (.k (.int 10)) (.k (.int 18))))] (.v 5)),
  .set 4 (.bin .add (.k (.int 97)) (.bin .mul (.k (.int 10)) (.v 1))),
  .for (.v 5) (.seq (.v 2)) [
    .set 4 (.bin .mod (.bi .int [(.bin .add (.bin .mul (.v 4) (.k (.int 48271))) (.v 5))]) (.k (.int 2147483647)))],
  .ret (.dct true false [(.k (.str s_left)), (.k (.str s_seed)), (.k (.str s_cells)), (.k (.str s_spot)), (.k (.str s_next))] [(.ite (.cmp .lt (.v 1) (.bi .len [(.v 3)])) (.ix (.v 3) (.v 1)) (.k (.int 0))), (.v 4), (.bin .add (.v 2) (.lst false [(.bin .add (.bin .mul (.k (.int 67)) (.v 1)) (.k (.int 47)))])), (.k (.int 0)), (.k (.int 0))])]

/-- _law_draw: 0 m 1 below 2 found 3 spot 4 cells 5 added 6 cell 7 blend -/
def c__law_draw : List St := [
  .ite (.cmp .gt (.ix (.v 0) (.k (.str s_left))) (.k (.int 0))) [
    .set 2 (.bin .mod (.bi .int [(.ix (.v 0) (.k (.str s_left)))]) (.v 1)),
    .setix (.v 0) (.k (.str s_left)) (.bin .fdiv (.ix (.v 0) (.k (.str s_left))) (.v 1)),
    .ret (.v 2)] [],
  .set 3 (.ix (.v 0) (.k (.str s_spot))),
  .setix (.v 0) (.k (.str s_spot)) (.bin .add (.v 3) (.k (.int 1))),
  .par [4, 5] [(.ix (.v 0) (.k (.str s_cells))), (.bin .add (.ix (.v 0) (.k (.str s_seed))) (.bin .mul (.bin .mul (.k (.int 40503)) (.v 3)) (.v 3)))],
  .set 6 (.ix (.v 4) (.bin .mod (.bi .int [(.v 3)]) (.bi .len [(.v 4)]))),
  .set 7 (.bin .mod (.bi .int [(.bin .add (.bin .mul (.v 6) (.bin .add (.bin .mul (.k (.int 2)) (.v 3)) (.k (.int 3)))) (.v 5))]) (.k (.int 2147483647))),
  .set 7 (.bin .mod (.bi .int [(.bin .add (.bin .add (.bin .mul (.v 7) (.v 7)) (.bin .mul (.k (.int 69621)) (.v 3))) (.ix (.v 0) (.k (.str s_seed))))]) (.k (.int 2147483629))),
  .ret (.bin .mod (.bin .fdiv (.bin .mod (.bi .int [(.bin .add (.bin .mul (.v 7) (.k (.int 48271))) (.v 3))]) (.k (.int 2147483647))) (.k (.int 11))) (.v 1))]

/-- _law_of: 0 m 1 some -/
def c__law_of : List St := [
  .ret (.ix (.v 1) (.call 18 [(.v 0), (.bi .len [(.v 1)])]))]

/-- _law_w: 0 word -/
def c__law_w : List St := [
  .ret (.tup [(.k (.str s_name)), (.v 0)])]

/-- _law_is_list: 0 datum -/
def c__law_is_list : List St := [
  .ret (.and (.isin (.v 0) .tuple) (.cmp .eq (.bi .len [(.v 0)]) (.k (.int 3))))]

/-- _law_is_word: 0 datum -/
def c__law_is_word : List St := [
  .ret (.and (.isin (.v 0) .tuple) (.cmp .eq (.bi .len [(.v 0)]) (.k (.int 2))))]

/-- _law_is_mark: 0 datum -/
def c__law_is_mark : List St := [
  .ret (.cmp .eq (.v 0) (.tup [(.k (.str s_name)), (.k (.str s__))]))]

/-- _law_words_in: 0 datum 1 found 2 part -/
def c__law_words_in : List St := [
  .ite (.call 21 [(.v 0)]) [
    .set 1 (.lst false []),
    .for (.v 2) (.seq (.bin .add (.ix (.v 0) (.k (.int 1))) (.tup [(.ix (.v 0) (.k (.int 2)))]))) [
      .set 1 (.bin .add (.v 1) (.call 24 [(.v 2)]))],
    .ret (.v 1)] [],
  .ret (.ite (.call 22 [(.v 0)]) (.lst false [(.ix (.v 0) (.k (.int 1)))]) (.lst false []))]

/-- _law_p_fault: 0 datum 1 path 2 literals 3 names 4 depth -/
def c__law_p_fault : List St := [
  .ite (.call 21 [(.v 0)]) [
    .ret (.call 26 [(.v 0), (.k (.int 0)), (.v 1), (.v 2), (.v 3), (.v 4)])] [],
  .ite (.call 22 [(.v 0)]) [
    .ite (.or (.cmp .eq (.ix (.v 0) (.k (.int 1))) (.k (.str s__))) (.cmp .mem (.ix (.v 0) (.k (.int 1))) (.v 3))) [
      .ret (.v 1)] [],
    .ite (.and (.cmp .nmem (.ix (.v 0) (.k (.int 1))) (.v 2)) (.cmp .ne (.ix (.v 0) (.k (.int 1))) (.k (.str s___1)))) [
      .setix (.v 3) (.ix (.v 0) (.k (.int 1))) (.v 4)] []] [],
  .ret (.k .non)]

/-- _law_p_items: 0 datum 1 begin 2 path 3 literals 4 names 5 depth 6 items 7 marks 8 k 9 more 10 fault -/
def c__law_p_items : List St := [
  .par [6, 7] [(.ix (.v 0) (.k (.int 1))), (.k (.int 0))],
  .for (.v 8) (.range2 (.v 1) (.bi .len [(.v 6)])) [
    .ite (.call 23 [(.ix (.v 6) (.v 8))]) [
      .set 7 (.bin .add (.v 7) (.k (.int 1))),
      .ite (.or (.cmp .eq (.v 8) (.v 1)) (.cmp .gt (.v 7) (.k (.int 1)))) [
        .ret (.bin .add (.v 2) (.tup [(.v 8)]))] []] [
      .set 9 (.ite (.and (.cmp .lt (.bin .add (.v 8) (.k (.int 1))) (.bi .len [(.v 6)])) (.call 23 [(.ix (.v 6) (.bin .add (.v 8) (.k (.int 1))))])) (.k (.int 1)) (.k (.int 0))),
      .set 10 (.call 25 [(.ix (.v 6) (.v 8)), (.bin .add (.v 2) (.tup [(.v 8)])), (.v 3), (.v 4), (.bin .add (.v 5) (.v 9))]),
      .ite (.notN (.v 10)) [
        .ret (.v 10)] []]],
  .ret (.call 25 [(.ix (.v 0) (.k (.int 2))), (.bin .add (.v 2) (.tup [(.bi .len [(.v 6)])])), (.v 3), (.v 4), (.v 5)])]

/-- _law_t_fault: 0 datum 1 path 2 names 3 depth 4 is_bare 5 items 6 k 7 item 8 more 9 fault 10 word -/
def c__law_t_fault : List St := [
  .ite (.call 22 [(.v 0)]) [
    .ite (.cmp .mem (.ix (.v 0) (.k (.int 1))) (.v 2)) [
      .ret (.ite (.cmp .eq (.ix (.v 2) (.ix (.v 0) (.k (.int 1)))) (.v 3)) (.k .non) (.v 1))] [],
    .ret (.ite (.and (.not (.v 4)) (.call 23 [(.v 0)])) (.v 1) (.k .non))] [],
  .ite (.not (.call 21 [(.v 0)])) [
    .ret (.k .non)] [],
  .set 5 (.ix (.v 0) (.k (.int 1))),
  .ite (.and (.not (.v 4)) (.and (.cmp .eq (.bi .len [(.v 5)]) (.k (.int 2))) (.and (.call 23 [(.ix (.v 5) (.k (.int 0)))]) (.reprNil false (.ix (.v 0) (.k (.int 2))))))) [
    .ret (.call 27 [(.ix (.v 5) (.k (.int 1))), (.bin .add (.v 1) (.tup [(.k (.int 1))])), (.v 2), (.v 3), (.k (.bl true))])] [],
  .for (.tup [6, 7]) (.enum (.v 5)) [
    .ite (.and (.not (.v 4)) (.call 23 [(.v 7)])) [
      .ite (.or (.cmp .eq (.v 6) (.k (.int 0))) (.call 23 [(.ix (.v 5) (.bin .sub (.v 6) (.k (.int 1))))])) [
        .ret (.bin .add (.v 1) (.tup [(.v 6)]))] [],
      .cont] [],
    .set 8 (.ite (.and (.not (.v 4)) (.and (.cmp .lt (.bin .add (.v 6) (.k (.int 1))) (.bi .len [(.v 5)])) (.call 23 [(.ix (.v 5) (.bin .add (.v 6) (.k (.int 1))))]))) (.k (.int 1)) (.k (.int 0))),
    .ite (.and (.cmp .eq (.v 8) (.k (.int 1))) (.cmp .eq (.comp false [10] (.v 10) (.seq (.call 24 [(.v 7)])) [(.cmp .mem (.v 10) (.v 2))] (.v 10)) (.lst false []))) [
      .ret (.bin .add (.v 1) (.tup [(.v 6)]))] [],
    .set 9 (.call 27 [(.v 7), (.bin .add (.v 1) (.tup [(.v 6)])), (.v 2), (.bin .add (.v 3) (.v 8)), (.v 4)]),
    .ite (.notN (.v 9)) [
      .ret (.v 9)] []],
  .ret (.call 27 [(.ix (.v 0) (.k (.int 2))), (.bin .add (.v 1) (.tup [(.bi .len [(.v 5)])])), (.v 2), (.v 3), (.v 4)])]

/-- _law_pattern: 0 m 1 size 2 way 3 items 4 spot 5 tail 6 k -/
def c__law_pattern : List St := [
  .set 2 (.ite (.cmp .gt (.v 1) (.k (.int 0))) (.call 18 [(.v 0), (.k (.int 7))]) (.call 18 [(.v 0), (.k (.int 4))])),
  .ite (.cmp .lt (.v 2) (.k (.int 2))) [
    .setix (.v 0) (.k (.str s_next)) (.bin .add (.ix (.v 0) (.k (.str s_next))) (.k (.int 1))),
    .ret (.call 20 [(.bin .add (.k (.str s_p)) (.bi .str [(.ix (.v 0) (.k (.str s_next)))]))])] [],
  .ite (.cmp .lt (.v 2) (.k (.int 4))) [
    .ret (.call 19 [(.v 0), (.lst false [(.call 20 [(.k (.str s_lit))]), (.call 20 [(.k (.str s___1))]), (.k (.int 5)), (.k (.bl true)), (.tup [])])])] [],
  .set 3 (.comp false [6] (.v 6) (.range1 (.bin .add (.k (.int 1)) (.call 18 [(.v 0), (.k (.int 3))]))) [] (.call 28 [(.v 0), (.bin .sub (.v 1) (.k (.int 1)))])),
  .ite (.cmp .eq (.call 18 [(.v 0), (.k (.int 2))]) (.k (.int 0))) [
    .set 4 (.bin .add (.k (.int 1)) (.call 18 [(.v 0), (.bi .len [(.v 3)])])),
    .set 3 (.bin .add (.bin .add (.sl (.v 3) [] [(.v 4)]) (.lst false [(.call 20 [(.k (.str s__))])])) (.sl (.v 3) [(.v 4)] []))] [],
  .set 5 (.ite (.cmp .eq (.call 18 [(.v 0), (.k (.int 4))]) (.k (.int 0))) (.call 28 [(.v 0), (.k (.int 0))]) (.tup [])),
  .ret (.tup [(.k (.str s_list)), (.bi .tuple [(.v 3)]), (.v 5)])]

/-- _law_template: 0 m 1 names 2 depth 3 size 4 here 5 deeper 6 items 7 k 8 inner 9 name -/
def c__law_template : List St := [
  .set 4 (.bi .sorted [(.comp false [9] (.v 9) (.keys 1) [(.cmp .eq (.ix (.v 1) (.v 9)) (.v 2))] (.v 9))]),
  .set 5 (.bi .sorted [(.comp false [9] (.v 9) (.keys 1) [(.cmp .gt (.ix (.v 1) (.v 9)) (.v 2))] (.v 9))]),
  .ite (.or (.cmp .lt (.v 3) (.k (.int 1))) (.cmp .eq (.call 18 [(.v 0), (.k (.int 4))]) (.k (.int 0)))) [
    .ret (.ite (.and (.cmp .ne (.v 4) (.lst false [])) (.cmp .gt (.call 18 [(.v 0), (.k (.int 3))]) (.k (.int 0)))) (.call 20 [(.call 19 [(.v 0), (.v 4)])]) (.call 19 [(.v 0), (.lst false [(.k (.int 7)), (.tup []), (.call 20 [(.k (.str s_new))]), (.call 20 [(.k (.str s___1))])])]))] [],
  .ite (.cmp .eq (.call 18 [(.v 0), (.k (.int 8))]) (.k (.int 0))) [
    .ret (.tup [(.k (.str s_list)), (.tup [(.call 20 [(.k (.str s__))]), (.tup [(.k (.str s_list)), (.tup [(.call 29 [(.v 0), (.v 1), (.v 2), (.k (.int 0))]), (.call 20 [(.k (.str s__))])]), (.tup [])])]), (.tup [])])] [],
  .set 6 (.lst true []),
  .for (.v 7) (.range1 (.bin .add (.k (.int 1)) (.call 18 [(.v 0), (.k (.int 3))]))) [
    .ite (.and (.cmp .ne (.v 5) (.lst false [])) (.cmp .eq (.call 18 [(.v 0), (.k (.int 2))]) (.k (.int 0)))) [
      .set 8 (.lst false [(.call 29 [(.v 0), (.v 1), (.bin .add (.v 2) (.k (.int 1))), (.bin .sub (.v 3) (.k (.int 1)))]), (.call 20 [(.call 19 [(.v 0), (.v 5)])])]),
      .set 6 (.catM (.v 6) (.lst false [(.tup [(.k (.str s_list)), (.bi .tuple [(.v 8)]), (.tup [])]), (.call 20 [(.k (.str s__))])]))] [
      .ex (.me .append (.v 6) [(.call 29 [(.v 0), (.v 1), (.v 2), (.bin .sub (.v 3) (.k (.int 1)))])])]],
  .ret (.tup [(.k (.str s_list)), (.bi .tuple [(.v 6)]), (.ite (.cmp .eq (.call 18 [(.v 0), (.k (.int 6))]) (.k (.int 0))) (.call 20 [(.k (.str s_new))]) (.tup []))])]

/-- _law_bent: 0 m 1 datum 2 some 3 items 4 k 5 way -/
def c__law_bent : List St := [
  .ite (.or (.not (.call 21 [(.v 1)])) (.cmp .eq (.call 18 [(.v 0), (.k (.int 6))]) (.k (.int 0)))) [
    .ret (.call 19 [(.v 0), (.v 2)])] [],
  .par [3, 4, 5] [(.ix (.v 1) (.k (.int 1))), (.call 18 [(.v 0), (.bi .len [(.ix (.v 1) (.k (.int 1)))])]), (.call 18 [(.v 0), (.k (.int 10))])],
  .ite (.cmp .eq (.v 5) (.k (.int 0))) [
    .ret (.tup [(.k (.str s_list)), (.v 3), (.call 19 [(.v 0), (.lst false [(.call 20 [(.k (.str s__))]), (.call 20 [(.k (.str s_p1))]), (.k (.int 5))])])])] [],
  .ite (.and (.cmp .eq (.v 5) (.k (.int 1))) (.cmp .gt (.bi .len [(.v 3)]) (.k (.int 1)))) [
    .ret (.tup [(.k (.str s_list)), (.bin .add (.sl (.v 3) [] [(.v 4)]) (.sl (.v 3) [(.bin .add (.v 4) (.k (.int 1)))] [])), (.ix (.v 1) (.k (.int 2)))])] [],
  .ite (.cmp .lt (.v 5) (.k (.int 5))) [
    .ret (.tup [(.k (.str s_list)), (.bin .add (.bin .add (.sl (.v 3) [] [(.v 4)]) (.tup [(.ite (.cmp .gt (.v 5) (.k (.int 2))) (.call 19 [(.v 0), (.v 2)]) (.ix (.v 3) (.v 4)))])) (.sl (.v 3) [(.v 4)] [])), (.ix (.v 1) (.k (.int 2)))])] [],
  .ret (.tup [(.k (.str s_list)), (.bin .add (.bin .add (.sl (.v 3) [] [(.v 4)]) (.tup [(.call 30 [(.v 0), (.ix (.v 3) (.v 4)), (.v 2)])])) (.sl (.v 3) [(.bin .add (.v 4) (.k (.int 1)))] [])), (.ix (.v 1) (.k (.int 2)))])]

/-- _law_turn_right: 0 m 1 items 2 pattern 3 names 4 template 5 some 6 turn 7 fault 8 wrong 9 k 10 name -/
def c__law_turn_right : List St := [
  .setix (.v 0) (.k (.str s_next)) (.k (.int 0)),
  .set 1 (.bin .add (.lst false [(.call 20 [(.k (.str s___1))])]) (.comp false [9] (.v 9) (.range1 (.call 18 [(.v 0), (.k (.int 4))])) [] (.call 28 [(.v 0), (.k (.int 3))]))),
  .par [2, 3] [(.tup [(.k (.str s_list)), (.bi .tuple [(.v 1)]), (.tup [])]), (.dct true false [] [])],
  .ex (.call 26 [(.v 2), (.k (.int 1)), (.tup []), (.tup [(.k (.str s_lit))]), (.v 3), (.k (.int 0))]),
  .set 4 (.call 29 [(.v 0), (.v 3), (.k (.int 0)), (.k (.int 4))]),
  .set 5 (.lst false [(.call 20 [(.k (.str s__))]), (.call 20 [(.k (.str s___1))]), (.call 20 [(.k (.str s_p1))]), (.call 20 [(.k (.str s_p2))]), (.call 20 [(.k (.str s_p3))]), (.call 20 [(.k (.str s_lit))]), (.call 20 [(.k (.str s_other))]), (.k (.int 5)), (.tup [])]),
  .for (.v 6) (.range1 (.k (.int 4))) [
    .par [3, 7] [(.dct true false [] []), (.tup [(.k (.str s_pattern)), (.tup [])])],
    .ite (.call 21 [(.v 2)]) [
      .set 8 (.call 26 [(.v 2), (.k (.int 1)), (.tup []), (.tup [(.k (.str s_lit))]), (.v 3), (.k (.int 0))]),
      .set 7 (.ite (.isN (.v 8)) (.k .non) (.tup [(.k (.str s_pattern)), (.v 8)]))] [],
    .ite (.isN (.v 7)) [
      .ite (.reprEq true (.call 16 [(.tup [(.k (.str s_lit))]), (.v 2)]) (.bi .tuple [(.comp false [10] (.v 10) (.seq (.bi .listV [(.v 3)])) [] (.tup [(.v 10), (.ix (.v 3) (.v 10))]))])) [
        .ret (.k (.bl false))] [],
      .set 8 (.call 27 [(.v 4), (.tup []), (.v 3), (.k (.int 0)), (.k (.bl false))]),
      .set 7 (.ite (.isN (.v 8)) (.k .non) (.tup [(.k (.str s_template)), (.v 8)]))] [],
    .ite (.reprEq true (.call 14 [(.tup [(.k (.str s_lit))]), (.v 2), (.v 4)]) (.v 7)) [
      .ret (.k (.bl false))] [],
    .ite (.cmp .eq (.call 18 [(.v 0), (.k (.int 2))]) (.k (.int 0))) [
      .set 2 (.call 30 [(.v 0), (.v 2), (.v 5)])] [
      .set 4 (.call 30 [(.v 0), (.v 4), (.v 5)])]],
  .ret (.k (.bl true))]

/-- _law_hand_right: 0 a 1 mark 2 under 3 plain 4 row 5 told -/
def c__law_hand_right : List St := [
  .par [0, 1, 2] [(.call 20 [(.k (.str s_a))]), (.call 20 [(.k (.str s__))]), (.call 20 [(.k (.str s___1))])],
  .par [3, 4] [(.tup [(.k (.str s_list)), (.tup [(.v 2), (.v 0)]), (.tup [])]), (.tup [(.k (.str s_list)), (.tup [(.v 2), (.v 0), (.v 1)]), (.tup [])])],
  .set 5 (.lst true [(.call 14 [(.tup []), (.v 3), (.tup [(.k (.str s_list)), (.tup [(.tup [(.k (.str s_list)), (.tup [(.v 1), (.tup [(.k (.str s_list)), (.tup [(.v 0), (.v 1)]), (.tup [])])]), (.tup [])]), (.v 0)]), (.tup [])])])]),
  .ex (.me .append (.v 5) [(.call 14 [(.tup []), (.v 4), (.tup [(.k (.str s_list)), (.tup [(.tup [(.k (.str s_list)), (.tup [(.k (.int 5)), (.k (.int 6))]), (.tup [])]), (.v 1)]), (.tup [])])])]),
  .ex (.me .append (.v 5) [(.call 14 [(.tup []), (.v 3), (.tup [(.k (.str s_list)), (.tup [(.tup [(.k (.str s_list)), (.tup [(.v 0), (.k (.int 5))]), (.tup [])]), (.v 1)]), (.tup [])])])]),
  .set 5 (.bin .add (.v 5) (.lst false [(.call 14 [(.tup []), (.tup [(.k (.str s_list)), (.tup [(.v 2), (.v 1)]), (.tup [])]), (.k (.int 1))]), (.call 14 [(.tup []), (.k (.int 5)), (.k (.int 1))]), (.call 14 [(.tup []), (.v 4), (.v 0)])])),
  .ret (.reprEq false (.v 5) (.lst false [(.k .non), (.tup [(.k (.str s_template)), (.tup [(.k (.int 0))])]), (.tup [(.k (.str s_template)), (.tup [(.k (.int 0)), (.k (.int 0))])]), (.tup [(.k (.str s_pattern)), (.tup [(.k (.int 1))])]), (.tup [(.k (.str s_pattern)), (.tup [])]), (.tup [(.k (.str s_template)), (.tup [])])]))]

/-- law: 0 script 1 k -/
def c_law : List St := [
  .ite (.not (.call 32 [])) [
    .ret (.k (.bl false))] [],
  .for (.v 1) (.range1 (.bin .add (.k (.int 3)) (.bi .min [(.bi .len [(.v 0)]), (.k (.int 3))]))) [
    .ite (.not (.call 31 [(.call 17 [(.v 0), (.v 1)])])) [
      .ret (.k (.bl false))] []],
  .ret (.k (.bl true))]

def fns : List Fn := [
  ⟨1, 1, c_is_list⟩,
  ⟨2, 6, c_node_of⟩,
  ⟨1, 1, c_path_of⟩,
  ⟨2, 2, c_letters⟩,
  ⟨1, 4, c_words_in⟩,
  ⟨2, 2, c_is_mark⟩,
  ⟨1, 1, c_is_plain_tail⟩,
  ⟨3, 4, c_pattern_fault⟩,
  ⟨4, 9, c_row_fault⟩,
  ⟨2, 2, c_whole_fault⟩,
  ⟨2, 2, c_is_as_it_is⟩,
  ⟨2, 3, c_has_name⟩,
  ⟨4, 9, c_template_fault⟩,
  ⟨1, 2, c_plain_rule⟩,
  ⟨3, 5, c_rule_fault⟩,
  ⟨2, 3, c_looked_at⟩,
  ⟨2, 2, c_pattern_names⟩,
  ⟨2, 6, c__law_begun⟩,
  ⟨2, 8, c__law_draw⟩,
  ⟨2, 2, c__law_of⟩,
  ⟨1, 1, c__law_w⟩,
  ⟨1, 1, c__law_is_list⟩,
  ⟨1, 1, c__law_is_word⟩,
  ⟨1, 1, c__law_is_mark⟩,
  ⟨1, 3, c__law_words_in⟩,
  ⟨5, 5, c__law_p_fault⟩,
  ⟨6, 11, c__law_p_items⟩,
  ⟨5, 11, c__law_t_fault⟩,
  ⟨2, 7, c__law_pattern⟩,
  ⟨4, 10, c__law_template⟩,
  ⟨3, 6, c__law_bent⟩,
  ⟨1, 11, c__law_turn_right⟩,
  ⟨0, 6, c__law_hand_right⟩,
  ⟨1, 2, c_law⟩]
abbrev i_is_list : Nat := 0
abbrev i_node_of : Nat := 1
abbrev i_path_of : Nat := 2
abbrev i_letters : Nat := 3
abbrev i_words_in : Nat := 4
abbrev i_is_mark : Nat := 5
abbrev i_is_plain_tail : Nat := 6
abbrev i_pattern_fault : Nat := 7
abbrev i_row_fault : Nat := 8
abbrev i_whole_fault : Nat := 9
abbrev i_is_as_it_is : Nat := 10
abbrev i_has_name : Nat := 11
abbrev i_template_fault : Nat := 12
abbrev i_plain_rule : Nat := 13
abbrev i_rule_fault : Nat := 14
abbrev i_looked_at : Nat := 15
abbrev i_pattern_names : Nat := 16
abbrev i__law_begun : Nat := 17
abbrev i__law_draw : Nat := 18
abbrev i__law_of : Nat := 19
abbrev i__law_w : Nat := 20
abbrev i__law_is_list : Nat := 21
abbrev i__law_is_word : Nat := 22
abbrev i__law_is_mark : Nat := 23
abbrev i__law_words_in : Nat := 24
abbrev i__law_p_fault : Nat := 25
abbrev i__law_p_items : Nat := 26
abbrev i__law_t_fault : Nat := 27
abbrev i__law_pattern : Nat := 28
abbrev i__law_template : Nat := 29
abbrev i__law_bent : Nat := 30
abbrev i__law_turn_right : Nat := 31
abbrev i__law_hand_right : Nat := 32
abbrev i_law : Nat := 33
end K96
set_option Elab.async false
set_option linter.all false
set_option maxRecDepth 100000
set_option maxHeartbeats 1000000
set_option autoImplicit false
namespace K96
open PySem PySem.Spec PyProof.Rows L2 MP
def top (i : Nat) : Stmt := PySem.Challenge.pw_keptrest_k96_whole_rule_faults.main.body.getD i (.Pass ⟨0, 0, 0, 0⟩)
/-- no name of the module hides these -/
structure Bu (mg : Str → Option Value) : Prop where
  m_len : mg "len" = none
  m_isinstance : mg "isinstance" = none
  m_tuple : mg "tuple" = none
  m_str : mg "str" = none
  m_enumerate : mg "enumerate" = none
  m_list : mg "list" = none
  m_int : mg "int" = none
  m_range : mg "range" = none
  m_repr : mg "repr" = none
  m_sorted : mg "sorted" = none
  m_min : mg "min" = none
abbrev t_is_list : Stmt := top 1
def N_is_list : List Str := ["value"]
theorem sc_is_list : FnScope N_is_list ["value"] (defScope t_is_list) := ⟨rfl, rfl, rfl, by decide +kernel, rfl, by decide +kernel, by decide +kernel⟩

theorem b_is_list {P : Program} {w : World} {K : Fr} {mg : Str → Option Value} {base : Heap} {f : Addr} {cdv : Value} {A : Around} {outer : List PySem.Env} {s : Shared} {H : Hp} {E : XK} {cf : CF} (B : Bu mg) (hu : (A.deeper (envOfC "is_list" (defScope t_is_list) s.heap.objs.size f cdv)).units + 70 < cLine) (hgd : (A.deeper (envOfC "is_list" (defScope t_is_list) s.heap.objs.size f cdv)).guards = some []) :
    SSs (cxOf CX0 P w K mg base N_is_list "is_list" (defScope t_is_list) f cdv A outer s H E).nox cf (defBody t_is_list) c_is_list :=
  have h64 : (A.deeper (envOfC "is_list" (defScope t_is_list) s.heap.objs.size f cdv)).units + 64 < cLine := by omega
  have h1 : (A.deeper (envOfC "is_list" (defScope t_is_list) s.heap.objs.size f cdv)).units + 1 < cLine := by omega
  have hc : (cxOf CX0 P w K mg base N_is_list "is_list" (defScope t_is_list) f cdv A outer s H E).nox.calm = true := rfl
  have hN : (cxOf CX0 P w K mg base N_is_list "is_list" (defScope t_is_list) f cdv A outer s H E).nox.N.Nodup := sc_is_list.nd
  (ss_cons (ss_if (st_w (sw_or (st_not (st_tru (se_isin .tuple B.m_isinstance B.m_tuple PyProof.Rows.boot_tuple (se_v 0)))) (sw_or (st_ne h64 (se_biB call_len_D B.m_len PySem.boot_len (sa_cons (se_v 0) sa_nil)) se_int) (sw_or1 (st_not (st_tru (se_isin .str B.m_isinstance B.m_str PyProof.Rows.boot_str (se_ix h64 (se_v 0) se_int))))))))
     (ss_cons (ss_ret se_bl)
      ss_nil)
     ss_nil)
    (ss_cons (ss_ret (se_and (se_eq h64 (se_ix h64 (se_v 0) se_int) se_str) (se_and (se_isin .tuple B.m_isinstance B.m_tuple PyProof.Rows.boot_tuple (se_ix h64 (se_v 0) se_int)) (se_one (se_gt (se_biB call_len_D B.m_len PySem.boot_len (sa_cons (se_ix h64 (se_v 0) se_int) sa_nil)) se_int)))))
    ss_nil))

abbrev t_node_of : Stmt := top 3
def N_node_of : List Str := ["datum", "path", "items", "end", "at", "item"]
theorem sc_node_of : FnScope N_node_of ["datum", "path"] (defScope t_node_of) := ⟨rfl, rfl, rfl, by decide +kernel, rfl, by decide +kernel, by decide +kernel⟩

theorem b_node_of {P : Program} {w : World} {K : Fr} {mg : Str → Option Value} {base : Heap} {f : Addr} {cdv : Value} {A : Around} {outer : List PySem.Env} {s : Shared} {H : Hp} {E : XK} {cf : CF} (B : Bu mg) (hu : (A.deeper (envOfC "node_of" (defScope t_node_of) s.heap.objs.size f cdv)).units + 70 < cLine) (hgd : (A.deeper (envOfC "node_of" (defScope t_node_of) s.heap.objs.size f cdv)).guards = some []) (c0 : Callee P w K mg base (A.deeper (envOfC "node_of" (defScope t_node_of) s.heap.objs.size f cdv)) cf "is_list" 0 1) (c1 : Callee P w K mg base (A.deeper (envOfC "node_of" (defScope t_node_of) s.heap.objs.size f cdv)) cf "node_of" 1 2) :
    SSs (cxOf CX0 P w K mg base N_node_of "node_of" (defScope t_node_of) f cdv A outer s H E).nox cf (defBody t_node_of) c_node_of :=
  have h64 : (A.deeper (envOfC "node_of" (defScope t_node_of) s.heap.objs.size f cdv)).units + 64 < cLine := by omega
  have h1 : (A.deeper (envOfC "node_of" (defScope t_node_of) s.heap.objs.size f cdv)).units + 1 < cLine := by omega
  have hc : (cxOf CX0 P w K mg base N_node_of "node_of" (defScope t_node_of) f cdv A outer s H E).nox.calm = true := rfl
  have hN : (cxOf CX0 P w K mg base N_node_of "node_of" (defScope t_node_of) f cdv A outer s H E).nox.N.Nodup := sc_node_of.nd
  (ss_cons (ss_if (st_tru (se_call c0 rfl (sa_cons (se_v 0) sa_nil)))
     (ss_cons (ss_set 2 hN (se_biT call_tuple_D B.m_tuple PyProof.Rows.boot_tuple (sa_cons (se_comp (own := [("at", 4), ("item", 5)]) hc hN (si_enum B.m_enumerate (se_ix h64 (se_v 0) se_int)) (blkOk_by (by show blkC N_node_of (defScope t_node_of) _ _ = true; decide +kernel)) (by decide) rfl (tgOk_tup [4, 5]) (fun _ _ _ _ _ => (pg_tup hc (pgs_cons (pg_name (i := 4) hN rfl (by first | exact Or.inl rfl | exact Or.inr rfl)) (pgs_cons (pg_name (i := 5) hN rfl (by first | exact Or.inl rfl | exact Or.inr rfl)) pgs_nil)))) (fun _ _ _ _ _ => sp_nil) (fun _ _ _ _ _ => (se_call c1 rfl (sa_cons (se_v 5) (sa_cons (se_add (se_v 1) (se_tup (sa_cons (se_v 4) sa_nil))) sa_nil))))) sa_nil)))
      (ss_cons (ss_set 3 hN (se_ite (st_eq h64 (se_ix h64 (se_v 0) se_int) (se_tup sa_nil)) (se_v 1) (se_add (se_v 1) (se_tup (sa_cons (se_biB call_len_D B.m_len PySem.boot_len (sa_cons (se_v 2) sa_nil)) sa_nil)))))
      (ss_cons (ss_ret (se_tup (sa_cons se_str (sa_cons (se_v 2) (sa_cons (se_call c1 rfl (sa_cons (se_ix h64 (se_v 0) se_int) (sa_cons (se_v 3) sa_nil))) (sa_cons (se_v 1) sa_nil))))))
      ss_nil)))
     ss_nil)
    (ss_cons (ss_if (st_w (sw_and (st_tru (se_isin .tuple B.m_isinstance B.m_tuple PyProof.Rows.boot_tuple (se_v 0))) (sw_and1 (st_ne h64 (se_v 0) (se_tup sa_nil)))))
     (ss_cons (ss_ret (se_tup (sa_cons se_str (sa_cons (se_ix h64 (se_v 0) se_int) (sa_cons (se_v 1) (sa_cons (se_v 1) sa_nil))))))
      ss_nil)
     ss_nil)
    (ss_cons (ss_ret (se_tup (sa_cons se_str (sa_cons (se_v 0) (sa_cons (se_v 1) sa_nil)))))
    ss_nil)))

abbrev t_path_of : Stmt := top 4
def N_path_of : List Str := ["node"]
theorem sc_path_of : FnScope N_path_of ["node"] (defScope t_path_of) := ⟨rfl, rfl, rfl, by decide +kernel, rfl, by decide +kernel, by decide +kernel⟩

theorem b_path_of {P : Program} {w : World} {K : Fr} {mg : Str → Option Value} {base : Heap} {f : Addr} {cdv : Value} {A : Around} {outer : List PySem.Env} {s : Shared} {H : Hp} {E : XK} {cf : CF} (B : Bu mg) (hu : (A.deeper (envOfC "path_of" (defScope t_path_of) s.heap.objs.size f cdv)).units + 70 < cLine) (hgd : (A.deeper (envOfC "path_of" (defScope t_path_of) s.heap.objs.size f cdv)).guards = some []) :
    SSs (cxOf CX0 P w K mg base N_path_of "path_of" (defScope t_path_of) f cdv A outer s H E).nox cf (defBody t_path_of) c_path_of :=
  have h64 : (A.deeper (envOfC "path_of" (defScope t_path_of) s.heap.objs.size f cdv)).units + 64 < cLine := by omega
  have h1 : (A.deeper (envOfC "path_of" (defScope t_path_of) s.heap.objs.size f cdv)).units + 1 < cLine := by omega
  have hc : (cxOf CX0 P w K mg base N_path_of "path_of" (defScope t_path_of) f cdv A outer s H E).nox.calm = true := rfl
  have hN : (cxOf CX0 P w K mg base N_path_of "path_of" (defScope t_path_of) f cdv A outer s H E).nox.N.Nodup := sc_path_of.nd
  (ss_cons (ss_ret (se_ite (st_eq h64 (se_ix h64 (se_v 0) se_int) se_str) (se_ix h64 (se_v 0) se_int) (se_ix h64 (se_v 0) se_int)))
    ss_nil)

abbrev t_letters : Stmt := top 5
def N_letters : List Str := ["aliases", "key"]
theorem sc_letters : FnScope N_letters ["aliases", "key"] (defScope t_letters) := ⟨rfl, rfl, rfl, by decide +kernel, rfl, by decide +kernel, by decide +kernel⟩

theorem b_letters {P : Program} {w : World} {K : Fr} {mg : Str → Option Value} {base : Heap} {f : Addr} {cdv : Value} {A : Around} {outer : List PySem.Env} {s : Shared} {H : Hp} {E : XK} {cf : CF} (B : Bu mg) (hu : (A.deeper (envOfC "letters" (defScope t_letters) s.heap.objs.size f cdv)).units + 70 < cLine) (hgd : (A.deeper (envOfC "letters" (defScope t_letters) s.heap.objs.size f cdv)).guards = some []) :
    SSs (cxOf CX0 P w K mg base N_letters "letters" (defScope t_letters) f cdv A outer s H E).nox cf (defBody t_letters) c_letters :=
  have h64 : (A.deeper (envOfC "letters" (defScope t_letters) s.heap.objs.size f cdv)).units + 64 < cLine := by omega
  have h1 : (A.deeper (envOfC "letters" (defScope t_letters) s.heap.objs.size f cdv)).units + 1 < cLine := by omega
  have hc : (cxOf CX0 P w K mg base N_letters "letters" (defScope t_letters) f cdv A outer s H E).nox.calm = true := rfl
  have hN : (cxOf CX0 P w K mg base N_letters "letters" (defScope t_letters) f cdv A outer s H E).nox.N.Nodup := sc_letters.nd
  (ss_cons (ss_while PassesOwn.never (st_not (st_tru (se_isin .str B.m_isinstance B.m_str PyProof.Rows.boot_str (se_v 1))))
     (ss_cons (ss_set 1 hN (se_ix h64 (se_ix h64 (se_v 0) (se_v 1)) se_int))
      ss_nil))
    (ss_cons (ss_ret (se_v 1))
    ss_nil))

abbrev t_words_in : Stmt := top 6
def N_words_in : List Str := ["node", "found", "stack", "here"]
theorem sc_words_in : FnScope N_words_in ["node"] (defScope t_words_in) := ⟨rfl, rfl, rfl, by decide +kernel, rfl, by decide +kernel, by decide +kernel⟩

theorem b_words_in {P : Program} {w : World} {K : Fr} {mg : Str → Option Value} {base : Heap} {f : Addr} {cdv : Value} {A : Around} {outer : List PySem.Env} {s : Shared} {H : Hp} {E : XK} {cf : CF} (B : Bu mg) (hu : (A.deeper (envOfC "words_in" (defScope t_words_in) s.heap.objs.size f cdv)).units + 70 < cLine) (hgd : (A.deeper (envOfC "words_in" (defScope t_words_in) s.heap.objs.size f cdv)).guards = some []) :
    SSs (cxOf CX0 P w K mg base N_words_in "words_in" (defScope t_words_in) f cdv A outer s H E).nox cf (defBody t_words_in) c_words_in :=
  have h64 : (A.deeper (envOfC "words_in" (defScope t_words_in) s.heap.objs.size f cdv)).units + 64 < cLine := by omega
  have h1 : (A.deeper (envOfC "words_in" (defScope t_words_in) s.heap.objs.size f cdv)).units + 1 < cLine := by omega
  have hc : (cxOf CX0 P w K mg base N_words_in "words_in" (defScope t_words_in) f cdv A outer s H E).nox.calm = true := rfl
  have hN : (cxOf CX0 P w K mg base N_words_in "words_in" (defScope t_words_in) f cdv A outer s H E).nox.N.Nodup := sc_words_in.nd
  (ss_cons (ss_par2 1 2 hc hN (by decide) (sa_cons (se_lstM sa_nil) (sa_cons (se_lstM (sa_cons (se_v 0) sa_nil)) sa_nil)))
    (ss_cons (ss_while PassesOwn.never (st_tru (se_v 2))
     (ss_cons (ss_set 3 hN (se_pop (se_v 2)))
      (ss_cons (ss_if (st_eq h64 (se_ix h64 (se_v 3) se_int) se_str)
       (ss_cons (ss_ex (se_append (se_v 1) (se_v 3)))
        ss_nil)
       (ss_cons (ss_if (st_eq h64 (se_ix h64 (se_v 3) se_int) se_str)
         (ss_cons (ss_ex (se_append (se_v 2) (se_ix h64 (se_v 3) se_int)))
          (ss_cons (ss_ex (se_extend (se_v 2) (se_rev (se_ix h64 (se_v 3) se_int))))
          ss_nil))
         ss_nil)
        ss_nil))
      ss_nil)))
    (ss_cons (ss_ret (se_v 1))
    ss_nil)))

abbrev t_is_mark : Stmt := top 7
def N_is_mark : List Str := ["rule", "node"]
theorem sc_is_mark : FnScope N_is_mark ["rule", "node"] (defScope t_is_mark) := ⟨rfl, rfl, rfl, by decide +kernel, rfl, by decide +kernel, by decide +kernel⟩

theorem b_is_mark {P : Program} {w : World} {K : Fr} {mg : Str → Option Value} {base : Heap} {f : Addr} {cdv : Value} {A : Around} {outer : List PySem.Env} {s : Shared} {H : Hp} {E : XK} {cf : CF} (B : Bu mg) (hu : (A.deeper (envOfC "is_mark" (defScope t_is_mark) s.heap.objs.size f cdv)).units + 70 < cLine) (hgd : (A.deeper (envOfC "is_mark" (defScope t_is_mark) s.heap.objs.size f cdv)).guards = some []) (c3 : Callee P w K mg base (A.deeper (envOfC "is_mark" (defScope t_is_mark) s.heap.objs.size f cdv)) cf "letters" 3 2) :
    SSs (cxOf CX0 P w K mg base N_is_mark "is_mark" (defScope t_is_mark) f cdv A outer s H E).nox cf (defBody t_is_mark) c_is_mark :=
  have h64 : (A.deeper (envOfC "is_mark" (defScope t_is_mark) s.heap.objs.size f cdv)).units + 64 < cLine := by omega
  have h1 : (A.deeper (envOfC "is_mark" (defScope t_is_mark) s.heap.objs.size f cdv)).units + 1 < cLine := by omega
  have hc : (cxOf CX0 P w K mg base N_is_mark "is_mark" (defScope t_is_mark) f cdv A outer s H E).nox.calm = true := rfl
  have hN : (cxOf CX0 P w K mg base N_is_mark "is_mark" (defScope t_is_mark) f cdv A outer s H E).nox.N.Nodup := sc_is_mark.nd
  (ss_cons (ss_ret (se_and (se_eq h64 (se_ix h64 (se_v 1) se_int) se_str) (se_one (se_eq h64 (se_call c3 rfl (sa_cons (se_ix h64 (se_v 0) se_str) (sa_cons (se_ix h64 (se_v 1) se_int) sa_nil))) se_str))))
    ss_nil)

abbrev t_is_plain_tail : Stmt := top 8
def N_is_plain_tail : List Str := ["node"]
theorem sc_is_plain_tail : FnScope N_is_plain_tail ["node"] (defScope t_is_plain_tail) := ⟨rfl, rfl, rfl, by decide +kernel, rfl, by decide +kernel, by decide +kernel⟩

theorem b_is_plain_tail {P : Program} {w : World} {K : Fr} {mg : Str → Option Value} {base : Heap} {f : Addr} {cdv : Value} {A : Around} {outer : List PySem.Env} {s : Shared} {H : Hp} {E : XK} {cf : CF} (B : Bu mg) (hu : (A.deeper (envOfC "is_plain_tail" (defScope t_is_plain_tail) s.heap.objs.size f cdv)).units + 70 < cLine) (hgd : (A.deeper (envOfC "is_plain_tail" (defScope t_is_plain_tail) s.heap.objs.size f cdv)).guards = some []) :
    SSs (cxOf CX0 P w K mg base N_is_plain_tail "is_plain_tail" (defScope t_is_plain_tail) f cdv A outer s H E).nox cf (defBody t_is_plain_tail) c_is_plain_tail :=
  have h64 : (A.deeper (envOfC "is_plain_tail" (defScope t_is_plain_tail) s.heap.objs.size f cdv)).units + 64 < cLine := by omega
  have h1 : (A.deeper (envOfC "is_plain_tail" (defScope t_is_plain_tail) s.heap.objs.size f cdv)).units + 1 < cLine := by omega
  have hc : (cxOf CX0 P w K mg base N_is_plain_tail "is_plain_tail" (defScope t_is_plain_tail) f cdv A outer s H E).nox.calm = true := rfl
  have hN : (cxOf CX0 P w K mg base N_is_plain_tail "is_plain_tail" (defScope t_is_plain_tail) f cdv A outer s H E).nox.N.Nodup := sc_is_plain_tail.nd
  (ss_cons (ss_ret (se_and (se_eq h64 (se_ix h64 (se_v 0) se_int) se_str) (se_one (se_eq h64 (se_ix h64 (se_v 0) se_int) (se_tup sa_nil)))))
    ss_nil)

abbrev t_pattern_fault : Stmt := top 9
def N_pattern_fault : List Str := ["rule", "node", "depth", "word"]
theorem sc_pattern_fault : FnScope N_pattern_fault ["rule", "node", "depth"] (defScope t_pattern_fault) := ⟨rfl, rfl, rfl, by decide +kernel, rfl, by decide +kernel, by decide +kernel⟩

theorem b_pattern_fault {P : Program} {w : World} {K : Fr} {mg : Str → Option Value} {base : Heap} {f : Addr} {cdv : Value} {A : Around} {outer : List PySem.Env} {s : Shared} {H : Hp} {E : XK} {cf : CF} (B : Bu mg) (hu : (A.deeper (envOfC "pattern_fault" (defScope t_pattern_fault) s.heap.objs.size f cdv)).units + 70 < cLine) (hgd : (A.deeper (envOfC "pattern_fault" (defScope t_pattern_fault) s.heap.objs.size f cdv)).guards = some []) (c3 : Callee P w K mg base (A.deeper (envOfC "pattern_fault" (defScope t_pattern_fault) s.heap.objs.size f cdv)) cf "letters" 3 2) (c8 : Callee P w K mg base (A.deeper (envOfC "pattern_fault" (defScope t_pattern_fault) s.heap.objs.size f cdv)) cf "row_fault" 8 4) :
    SSs (cxOf CX0 P w K mg base N_pattern_fault "pattern_fault" (defScope t_pattern_fault) f cdv A outer s H E).nox cf (defBody t_pattern_fault) c_pattern_fault :=
  have h64 : (A.deeper (envOfC "pattern_fault" (defScope t_pattern_fault) s.heap.objs.size f cdv)).units + 64 < cLine := by omega
  have h1 : (A.deeper (envOfC "pattern_fault" (defScope t_pattern_fault) s.heap.objs.size f cdv)).units + 1 < cLine := by omega
  have hc : (cxOf CX0 P w K mg base N_pattern_fault "pattern_fault" (defScope t_pattern_fault) f cdv A outer s H E).nox.calm = true := rfl
  have hN : (cxOf CX0 P w K mg base N_pattern_fault "pattern_fault" (defScope t_pattern_fault) f cdv A outer s H E).nox.N.Nodup := sc_pattern_fault.nd
  (ss_cons (ss_if (st_eq h64 (se_ix h64 (se_v 1) se_int) se_str)
     (ss_cons (ss_ret se_non)
      ss_nil)
     ss_nil)
    (ss_cons (ss_if (st_eq h64 (se_ix h64 (se_v 1) se_int) se_str)
     (ss_cons (ss_ret (se_call c8 rfl (sa_cons (se_v 0) (sa_cons (se_ix h64 (se_v 1) se_int) (sa_cons (se_ix h64 (se_v 1) se_int) (sa_cons (se_v 2) sa_nil))))))
      ss_nil)
     ss_nil)
    (ss_cons (ss_set 3 hN (se_call c3 rfl (sa_cons (se_ix h64 (se_v 0) se_str) (sa_cons (se_ix h64 (se_v 1) se_int) sa_nil))))
    (ss_cons (ss_if (st_w (sw_or (st_eq h64 (se_v 3) se_str) (sw_or1 (st_mem h64 (se_ix h64 (se_v 1) se_int) (se_ix h64 (se_v 0) se_str)))))
     (ss_cons (ss_ret (se_ix h64 (se_v 1) se_int))
      ss_nil)
     ss_nil)
    (ss_cons (ss_if (st_w (sw_and (st_nmem h64 (se_ix h64 (se_v 1) se_int) (se_ix h64 (se_v 0) se_str)) (sw_and1 (st_ne h64 (se_v 3) se_str))))
     (ss_cons (ss_setix h1 (se_v 2) (se_ix h64 (se_v 0) se_str) (se_ix h64 (se_v 1) se_int))
      ss_nil)
     ss_nil)
    (ss_cons (ss_ret se_non)
    ss_nil))))))

abbrev t_row_fault : Stmt := top 10
def N_row_fault : List Str := ["rule", "items", "tail", "depth", "repeats", "at", "node", "is_repeated", "fault"]
theorem sc_row_fault : FnScope N_row_fault ["rule", "items", "tail", "depth"] (defScope t_row_fault) := ⟨rfl, rfl, rfl, by decide +kernel, rfl, by decide +kernel, by decide +kernel⟩

theorem b_row_fault {P : Program} {w : World} {K : Fr} {mg : Str → Option Value} {base : Heap} {f : Addr} {cdv : Value} {A : Around} {outer : List PySem.Env} {s : Shared} {H : Hp} {E : XK} {cf : CF} (B : Bu mg) (hu : (A.deeper (envOfC "row_fault" (defScope t_row_fault) s.heap.objs.size f cdv)).units + 70 < cLine) (hgd : (A.deeper (envOfC "row_fault" (defScope t_row_fault) s.heap.objs.size f cdv)).guards = some []) (c5 : Callee P w K mg base (A.deeper (envOfC "row_fault" (defScope t_row_fault) s.heap.objs.size f cdv)) cf "is_mark" 5 2) (c7 : Callee P w K mg base (A.deeper (envOfC "row_fault" (defScope t_row_fault) s.heap.objs.size f cdv)) cf "pattern_fault" 7 3) :
    SSs (cxOf CX0 P w K mg base N_row_fault "row_fault" (defScope t_row_fault) f cdv A outer s H E).nox cf (defBody t_row_fault) c_row_fault :=
  have h64 : (A.deeper (envOfC "row_fault" (defScope t_row_fault) s.heap.objs.size f cdv)).units + 64 < cLine := by omega
  have h1 : (A.deeper (envOfC "row_fault" (defScope t_row_fault) s.heap.objs.size f cdv)).units + 1 < cLine := by omega
  have hc : (cxOf CX0 P w K mg base N_row_fault "row_fault" (defScope t_row_fault) f cdv A outer s H E).nox.calm = true := rfl
  have hN : (cxOf CX0 P w K mg base N_row_fault "row_fault" (defScope t_row_fault) f cdv A outer s H E).nox.N.Nodup := sc_row_fault.nd
  (ss_cons (ss_set 4 hN se_int)
    (ss_cons (ss_for PassesOwn.never hc (si_enum B.m_enumerate (se_v 1)) (tg_tup (is := [5, 6]) hc (pgs_cons (pg_name (i := 5) hN rfl (by first | exact Or.inl rfl | exact Or.inr rfl)) (pgs_cons (pg_name (i := 6) hN rfl (by first | exact Or.inl rfl | exact Or.inr rfl)) pgs_nil)))
     (ss_cons (ss_if (st_tru (se_call c5 rfl (sa_cons (se_v 0) (sa_cons (se_v 6) sa_nil))))
       (ss_cons (ss_if (st_w (sw_or (st_eq h64 (se_v 5) se_int) (sw_or1 (st_gt (se_v 4) se_int))))
         (ss_cons (ss_ret (se_ix h64 (se_v 6) se_int))
          ss_nil)
         ss_nil)
        (ss_cons (ss_set 4 hN (se_add (se_v 4) se_int))
        ss_nil))
       (ss_cons (ss_set 7 hN (se_and (se_lt (se_add (se_v 5) se_int) (se_biB call_len_D B.m_len PySem.boot_len (sa_cons (se_v 1) sa_nil))) (se_one (se_call c5 rfl (sa_cons (se_v 0) (sa_cons (se_ix h64 (se_v 1) (se_add (se_v 5) se_int)) sa_nil))))))
        (ss_cons (ss_set 8 hN (se_call c7 rfl (sa_cons (se_v 0) (sa_cons (se_v 6) (sa_cons (se_add (se_v 3) (se_ite (st_tru (se_v 7)) se_int se_int)) sa_nil)))))
        (ss_cons (ss_if (st_notN (se_v 8))
         (ss_cons (ss_ret (se_v 8))
          ss_nil)
         ss_nil)
        ss_nil))))
      ss_nil))
    (ss_cons (ss_ret (se_call c7 rfl (sa_cons (se_v 0) (sa_cons (se_v 2) (sa_cons (se_v 3) sa_nil)))))
    ss_nil)))

abbrev t_whole_fault : Stmt := top 11
def N_whole_fault : List Str := ["rule", "pattern"]
theorem sc_whole_fault : FnScope N_whole_fault ["rule", "pattern"] (defScope t_whole_fault) := ⟨rfl, rfl, rfl, by decide +kernel, rfl, by decide +kernel, by decide +kernel⟩

theorem b_whole_fault {P : Program} {w : World} {K : Fr} {mg : Str → Option Value} {base : Heap} {f : Addr} {cdv : Value} {A : Around} {outer : List PySem.Env} {s : Shared} {H : Hp} {E : XK} {cf : CF} (B : Bu mg) (hu : (A.deeper (envOfC "whole_fault" (defScope t_whole_fault) s.heap.objs.size f cdv)).units + 70 < cLine) (hgd : (A.deeper (envOfC "whole_fault" (defScope t_whole_fault) s.heap.objs.size f cdv)).guards = some []) (c2 : Callee P w K mg base (A.deeper (envOfC "whole_fault" (defScope t_whole_fault) s.heap.objs.size f cdv)) cf "path_of" 2 1) (c8 : Callee P w K mg base (A.deeper (envOfC "whole_fault" (defScope t_whole_fault) s.heap.objs.size f cdv)) cf "row_fault" 8 4) :
    SSs (cxOf CX0 P w K mg base N_whole_fault "whole_fault" (defScope t_whole_fault) f cdv A outer s H E).nox cf (defBody t_whole_fault) c_whole_fault :=
  have h64 : (A.deeper (envOfC "whole_fault" (defScope t_whole_fault) s.heap.objs.size f cdv)).units + 64 < cLine := by omega
  have h1 : (A.deeper (envOfC "whole_fault" (defScope t_whole_fault) s.heap.objs.size f cdv)).units + 1 < cLine := by omega
  have hc : (cxOf CX0 P w K mg base N_whole_fault "whole_fault" (defScope t_whole_fault) f cdv A outer s H E).nox.calm = true := rfl
  have hN : (cxOf CX0 P w K mg base N_whole_fault "whole_fault" (defScope t_whole_fault) f cdv A outer s H E).nox.N.Nodup := sc_whole_fault.nd
  (ss_cons (ss_if (st_ne h64 (se_ix h64 (se_v 1) se_int) se_str)
     (ss_cons (ss_ret (se_call c2 rfl (sa_cons (se_v 1) sa_nil)))
      ss_nil)
     ss_nil)
    (ss_cons (ss_ret (se_call c8 rfl (sa_cons (se_v 0) (sa_cons (se_sl (se_ix h64 (se_v 1) se_int) (so_some se_int) so_none) (sa_cons (se_ix h64 (se_v 1) se_int) (sa_cons se_int sa_nil))))))
    ss_nil))

abbrev t_is_as_it_is : Stmt := top 12
def N_is_as_it_is : List Str := ["rule", "node"]
theorem sc_is_as_it_is : FnScope N_is_as_it_is ["rule", "node"] (defScope t_is_as_it_is) := ⟨rfl, rfl, rfl, by decide +kernel, rfl, by decide +kernel, by decide +kernel⟩

theorem b_is_as_it_is {P : Program} {w : World} {K : Fr} {mg : Str → Option Value} {base : Heap} {f : Addr} {cdv : Value} {A : Around} {outer : List PySem.Env} {s : Shared} {H : Hp} {E : XK} {cf : CF} (B : Bu mg) (hu : (A.deeper (envOfC "is_as_it_is" (defScope t_is_as_it_is) s.heap.objs.size f cdv)).units + 70 < cLine) (hgd : (A.deeper (envOfC "is_as_it_is" (defScope t_is_as_it_is) s.heap.objs.size f cdv)).guards = some []) (c5 : Callee P w K mg base (A.deeper (envOfC "is_as_it_is" (defScope t_is_as_it_is) s.heap.objs.size f cdv)) cf "is_mark" 5 2) (c6 : Callee P w K mg base (A.deeper (envOfC "is_as_it_is" (defScope t_is_as_it_is) s.heap.objs.size f cdv)) cf "is_plain_tail" 6 1) :
    SSs (cxOf CX0 P w K mg base N_is_as_it_is "is_as_it_is" (defScope t_is_as_it_is) f cdv A outer s H E).nox cf (defBody t_is_as_it_is) c_is_as_it_is :=
  have h64 : (A.deeper (envOfC "is_as_it_is" (defScope t_is_as_it_is) s.heap.objs.size f cdv)).units + 64 < cLine := by omega
  have h1 : (A.deeper (envOfC "is_as_it_is" (defScope t_is_as_it_is) s.heap.objs.size f cdv)).units + 1 < cLine := by omega
  have hc : (cxOf CX0 P w K mg base N_is_as_it_is "is_as_it_is" (defScope t_is_as_it_is) f cdv A outer s H E).nox.calm = true := rfl
  have hN : (cxOf CX0 P w K mg base N_is_as_it_is "is_as_it_is" (defScope t_is_as_it_is) f cdv A outer s H E).nox.N.Nodup := sc_is_as_it_is.nd
  (ss_cons (ss_ret (se_and (se_eq h64 (se_biB call_len_D B.m_len PySem.boot_len (sa_cons (se_ix h64 (se_v 1) se_int) sa_nil)) se_int) (se_and (se_call c5 rfl (sa_cons (se_v 0) (sa_cons (se_ix h64 (se_ix h64 (se_v 1) se_int) se_int) sa_nil))) (se_one (se_call c6 rfl (sa_cons (se_ix h64 (se_v 1) se_int) sa_nil))))))
    ss_nil)

abbrev t_has_name : Stmt := top 13
def N_has_name : List Str := ["rule", "node", "word"]
theorem sc_has_name : FnScope N_has_name ["rule", "node"] (defScope t_has_name) := ⟨rfl, rfl, rfl, by decide +kernel, rfl, by decide +kernel, by decide +kernel⟩

theorem b_has_name {P : Program} {w : World} {K : Fr} {mg : Str → Option Value} {base : Heap} {f : Addr} {cdv : Value} {A : Around} {outer : List PySem.Env} {s : Shared} {H : Hp} {E : XK} {cf : CF} (B : Bu mg) (hu : (A.deeper (envOfC "has_name" (defScope t_has_name) s.heap.objs.size f cdv)).units + 70 < cLine) (hgd : (A.deeper (envOfC "has_name" (defScope t_has_name) s.heap.objs.size f cdv)).guards = some []) (c4 : Callee P w K mg base (A.deeper (envOfC "has_name" (defScope t_has_name) s.heap.objs.size f cdv)) cf "words_in" 4 1) :
    SSs (cxOf CX0 P w K mg base N_has_name "has_name" (defScope t_has_name) f cdv A outer s H E).nox cf (defBody t_has_name) c_has_name :=
  have h64 : (A.deeper (envOfC "has_name" (defScope t_has_name) s.heap.objs.size f cdv)).units + 64 < cLine := by omega
  have h1 : (A.deeper (envOfC "has_name" (defScope t_has_name) s.heap.objs.size f cdv)).units + 1 < cLine := by omega
  have hc : (cxOf CX0 P w K mg base N_has_name "has_name" (defScope t_has_name) f cdv A outer s H E).nox.calm = true := rfl
  have hN : (cxOf CX0 P w K mg base N_has_name "has_name" (defScope t_has_name) f cdv A outer s H E).nox.N.Nodup := sc_has_name.nd
  (ss_cons (ss_ret (se_gt (se_biB call_len_D B.m_len PySem.boot_len (sa_cons (se_comp (own := [("word", 2)]) hc hN (si_seq (se_call c4 rfl (sa_cons (se_v 1) sa_nil))) (blkOk_by (by show blkC N_has_name (defScope t_has_name) _ _ = true; decide +kernel)) (by decide) rfl (tgOk_v 2) (fun _ _ _ _ _ => (pg_name (i := 2) hN rfl (by first | exact Or.inl rfl | exact Or.inr rfl))) (fun _ _ _ _ _ => (sp_one (st_mem h64 (se_ix h64 (se_v 2) se_int) (se_ix h64 (se_v 0) se_str)))) (fun _ _ _ _ _ => (se_v 2))) sa_nil)) se_int))
    ss_nil)

abbrev t_template_fault : Stmt := top 14
def N_template_fault : List Str := ["rule", "node", "depth", "is_bare", "items", "at", "item", "is_repeated", "fault"]
theorem sc_template_fault : FnScope N_template_fault ["rule", "node", "depth", "is_bare"] (defScope t_template_fault) := ⟨rfl, rfl, rfl, by decide +kernel, rfl, by decide +kernel, by decide +kernel⟩

theorem b_template_fault {P : Program} {w : World} {K : Fr} {mg : Str → Option Value} {base : Heap} {f : Addr} {cdv : Value} {A : Around} {outer : List PySem.Env} {s : Shared} {H : Hp} {E : XK} {cf : CF} (B : Bu mg) (hu : (A.deeper (envOfC "template_fault" (defScope t_template_fault) s.heap.objs.size f cdv)).units + 70 < cLine) (hgd : (A.deeper (envOfC "template_fault" (defScope t_template_fault) s.heap.objs.size f cdv)).guards = some []) (c2 : Callee P w K mg base (A.deeper (envOfC "template_fault" (defScope t_template_fault) s.heap.objs.size f cdv)) cf "path_of" 2 1) (c5 : Callee P w K mg base (A.deeper (envOfC "template_fault" (defScope t_template_fault) s.heap.objs.size f cdv)) cf "is_mark" 5 2) (c10 : Callee P w K mg base (A.deeper (envOfC "template_fault" (defScope t_template_fault) s.heap.objs.size f cdv)) cf "is_as_it_is" 10 2) (c11 : Callee P w K mg base (A.deeper (envOfC "template_fault" (defScope t_template_fault) s.heap.objs.size f cdv)) cf "has_name" 11 2) (c12 : Callee P w K mg base (A.deeper (envOfC "template_fault" (defScope t_template_fault) s.heap.objs.size f cdv)) cf "template_fault" 12 4) :
    SSs (cxOf CX0 P w K mg base N_template_fault "template_fault" (defScope t_template_fault) f cdv A outer s H E).nox cf (defBody t_template_fault) c_template_fault :=
  have h64 : (A.deeper (envOfC "template_fault" (defScope t_template_fault) s.heap.objs.size f cdv)).units + 64 < cLine := by omega
  have h1 : (A.deeper (envOfC "template_fault" (defScope t_template_fault) s.heap.objs.size f cdv)).units + 1 < cLine := by omega
  have hc : (cxOf CX0 P w K mg base N_template_fault "template_fault" (defScope t_template_fault) f cdv A outer s H E).nox.calm = true := rfl
  have hN : (cxOf CX0 P w K mg base N_template_fault "template_fault" (defScope t_template_fault) f cdv A outer s H E).nox.N.Nodup := sc_template_fault.nd
  (ss_cons (ss_if (st_eq h64 (se_ix h64 (se_v 1) se_int) se_str)
     (ss_cons (ss_ret se_non)
      ss_nil)
     ss_nil)
    (ss_cons (ss_if (st_eq h64 (se_ix h64 (se_v 1) se_int) se_str)
     (ss_cons (ss_if (st_mem h64 (se_ix h64 (se_v 1) se_int) (se_ix h64 (se_v 0) se_str))
       (ss_cons (ss_ret (se_ite (st_eq h64 (se_ix h64 (se_ix h64 (se_v 0) se_str) (se_ix h64 (se_v 1) se_int)) (se_v 2)) se_non (se_ix h64 (se_v 1) se_int)))
        ss_nil)
       ss_nil)
      (ss_cons (ss_ret (se_ite (st_w (sw_and (st_not (st_tru (se_v 3))) (sw_and1 (st_tru (se_call c5 rfl (sa_cons (se_v 0) (sa_cons (se_v 1) sa_nil))))))) (se_ix h64 (se_v 1) se_int) se_non))
      ss_nil))
     ss_nil)
    (ss_cons (ss_if (st_w (sw_and (st_not (st_tru (se_v 3))) (sw_and1 (st_tru (se_call c10 rfl (sa_cons (se_v 0) (sa_cons (se_v 1) sa_nil)))))))
     (ss_cons (ss_ret (se_call c12 rfl (sa_cons (se_v 0) (sa_cons (se_ix h64 (se_ix h64 (se_v 1) se_int) se_int) (sa_cons (se_v 2) (sa_cons se_bl sa_nil))))))
      ss_nil)
     ss_nil)
    (ss_cons (ss_set 4 hN (se_ix h64 (se_v 1) se_int))
    (ss_cons (ss_for PassesOwn.never hc (si_enum B.m_enumerate (se_v 4)) (tg_tup (is := [5, 6]) hc (pgs_cons (pg_name (i := 5) hN rfl (by first | exact Or.inl rfl | exact Or.inr rfl)) (pgs_cons (pg_name (i := 6) hN rfl (by first | exact Or.inl rfl | exact Or.inr rfl)) pgs_nil)))
     (ss_cons (ss_if (st_w (sw_and (st_not (st_tru (se_v 3))) (sw_and1 (st_tru (se_call c5 rfl (sa_cons (se_v 0) (sa_cons (se_v 6) sa_nil)))))))
       (ss_cons (ss_if (st_w (sw_or (st_eq h64 (se_v 5) se_int) (sw_or1 (st_tru (se_call c5 rfl (sa_cons (se_v 0) (sa_cons (se_ix h64 (se_v 4) (se_sub (se_v 5) se_int)) sa_nil)))))))
         (ss_cons (ss_ret (se_call c2 rfl (sa_cons (se_v 6) sa_nil)))
          ss_nil)
         ss_nil)
        ss_nil)
       (ss_cons (ss_set 7 hN (se_and (se_not (se_v 3)) (se_and (se_lt (se_add (se_v 5) se_int) (se_biB call_len_D B.m_len PySem.boot_len (sa_cons (se_v 4) sa_nil))) (se_one (se_call c5 rfl (sa_cons (se_v 0) (sa_cons (se_ix h64 (se_v 4) (se_add (se_v 5) se_int)) sa_nil)))))))
        (ss_cons (ss_if (st_w (sw_and (st_tru (se_v 7)) (sw_and1 (st_not (st_tru (se_call c11 rfl (sa_cons (se_v 0) (sa_cons (se_v 6) sa_nil))))))))
         (ss_cons (ss_ret (se_call c2 rfl (sa_cons (se_v 6) sa_nil)))
          ss_nil)
         ss_nil)
        (ss_cons (ss_set 8 hN (se_call c12 rfl (sa_cons (se_v 0) (sa_cons (se_v 6) (sa_cons (se_add (se_v 2) (se_ite (st_tru (se_v 7)) se_int se_int)) (sa_cons (se_v 3) sa_nil))))))
        (ss_cons (ss_if (st_notN (se_v 8))
         (ss_cons (ss_ret (se_v 8))
          ss_nil)
         ss_nil)
        ss_nil)))))
      ss_nil))
    (ss_cons (ss_ret (se_call c12 rfl (sa_cons (se_v 0) (sa_cons (se_ix h64 (se_v 1) se_int) (sa_cons (se_v 2) (sa_cons (se_v 3) sa_nil))))))
    ss_nil))))))

abbrev t_plain_rule : Stmt := top 15
def N_plain_rule : List Str := ["literals", "word"]
theorem sc_plain_rule : FnScope N_plain_rule ["literals"] (defScope t_plain_rule) := ⟨rfl, rfl, rfl, by decide +kernel, rfl, by decide +kernel, by decide +kernel⟩

theorem b_plain_rule {P : Program} {w : World} {K : Fr} {mg : Str → Option Value} {base : Heap} {f : Addr} {cdv : Value} {A : Around} {outer : List PySem.Env} {s : Shared} {H : Hp} {E : XK} {cf : CF} (B : Bu mg) (hu : (A.deeper (envOfC "plain_rule" (defScope t_plain_rule) s.heap.objs.size f cdv)).units + 70 < cLine) (hgd : (A.deeper (envOfC "plain_rule" (defScope t_plain_rule) s.heap.objs.size f cdv)).guards = some []) :
    SSs (cxOf CX0 P w K mg base N_plain_rule "plain_rule" (defScope t_plain_rule) f cdv A outer s H E).nox cf (defBody t_plain_rule) c_plain_rule :=
  have h64 : (A.deeper (envOfC "plain_rule" (defScope t_plain_rule) s.heap.objs.size f cdv)).units + 64 < cLine := by omega
  have h1 : (A.deeper (envOfC "plain_rule" (defScope t_plain_rule) s.heap.objs.size f cdv)).units + 1 < cLine := by omega
  have hc : (cxOf CX0 P w K mg base N_plain_rule "plain_rule" (defScope t_plain_rule) f cdv A outer s H E).nox.calm = true := rfl
  have hN : (cxOf CX0 P w K mg base N_plain_rule "plain_rule" (defScope t_plain_rule) f cdv A outer s H E).nox.N.Nodup := sc_plain_rule.nd
  (ss_cons (ss_ret (se_dct (ss := [s_aliases, s_literals, s_names, s_likes, s_path, s_fresh, s_env]) (sd_cons se_dct0 (sd_cons (se_v 0) (sd_cons se_dctM0 (sd_cons (se_dcomp (own := [("word", 1)]) h1 hc hN (si_seq (se_v 0)) (blkOk_by (by show blkC N_plain_rule (defScope t_plain_rule) _ _ = true; decide +kernel)) (by decide) (tgOk_v 1) (fun _ _ _ _ _ => (pg_name (i := 1) hN rfl (by first | exact Or.inl rfl | exact Or.inr rfl))) (fun _ _ _ _ _ => (se_tup (sa_cons (se_v 1) (sa_cons (se_v 1) sa_nil)))) (fun _ _ _ _ _ => se_bl)) (sd_cons (se_tup sa_nil) (sd_cons se_non (sd_cons (se_tup sa_nil) sd_nil)))))))))
    ss_nil)

abbrev t_rule_fault : Stmt := top 16
def N_rule_fault : List Str := ["literals", "pattern", "template", "rule", "fault"]
theorem sc_rule_fault : FnScope N_rule_fault ["literals", "pattern", "template"] (defScope t_rule_fault) := ⟨rfl, rfl, rfl, by decide +kernel, rfl, by decide +kernel, by decide +kernel⟩

theorem b_rule_fault {P : Program} {w : World} {K : Fr} {mg : Str → Option Value} {base : Heap} {f : Addr} {cdv : Value} {A : Around} {outer : List PySem.Env} {s : Shared} {H : Hp} {E : XK} {cf : CF} (B : Bu mg) (hu : (A.deeper (envOfC "rule_fault" (defScope t_rule_fault) s.heap.objs.size f cdv)).units + 70 < cLine) (hgd : (A.deeper (envOfC "rule_fault" (defScope t_rule_fault) s.heap.objs.size f cdv)).guards = some []) (c1 : Callee P w K mg base (A.deeper (envOfC "rule_fault" (defScope t_rule_fault) s.heap.objs.size f cdv)) cf "node_of" 1 2) (c9 : Callee P w K mg base (A.deeper (envOfC "rule_fault" (defScope t_rule_fault) s.heap.objs.size f cdv)) cf "whole_fault" 9 2) (c12 : Callee P w K mg base (A.deeper (envOfC "rule_fault" (defScope t_rule_fault) s.heap.objs.size f cdv)) cf "template_fault" 12 4) (c13 : Callee P w K mg base (A.deeper (envOfC "rule_fault" (defScope t_rule_fault) s.heap.objs.size f cdv)) cf "plain_rule" 13 1) :
    SSs (cxOf CX0 P w K mg base N_rule_fault "rule_fault" (defScope t_rule_fault) f cdv A outer s H E).nox cf (defBody t_rule_fault) c_rule_fault :=
  have h64 : (A.deeper (envOfC "rule_fault" (defScope t_rule_fault) s.heap.objs.size f cdv)).units + 64 < cLine := by omega
  have h1 : (A.deeper (envOfC "rule_fault" (defScope t_rule_fault) s.heap.objs.size f cdv)).units + 1 < cLine := by omega
  have hc : (cxOf CX0 P w K mg base N_rule_fault "rule_fault" (defScope t_rule_fault) f cdv A outer s H E).nox.calm = true := rfl
  have hN : (cxOf CX0 P w K mg base N_rule_fault "rule_fault" (defScope t_rule_fault) f cdv A outer s H E).nox.N.Nodup := sc_rule_fault.nd
  (ss_cons (ss_set 3 hN (se_call c13 rfl (sa_cons (se_v 0) sa_nil)))
    (ss_cons (ss_set 4 hN (se_call c9 rfl (sa_cons (se_v 3) (sa_cons (se_call c1 rfl (sa_cons (se_v 1) (sa_cons (se_tup sa_nil) sa_nil))) sa_nil))))
    (ss_cons (ss_if (st_notN (se_v 4))
     (ss_cons (ss_ret (se_tup (sa_cons se_str (sa_cons (se_v 4) sa_nil))))
      ss_nil)
     ss_nil)
    (ss_cons (ss_set 4 hN (se_call c12 rfl (sa_cons (se_v 3) (sa_cons (se_call c1 rfl (sa_cons (se_v 2) (sa_cons (se_tup sa_nil) sa_nil))) (sa_cons se_int (sa_cons se_bl sa_nil))))))
    (ss_cons (ss_ret (se_ite (st_isN (se_v 4)) se_non (se_tup (sa_cons se_str (sa_cons (se_v 4) sa_nil)))))
    ss_nil)))))

abbrev t_looked_at : Stmt := top 17
def N_looked_at : List Str := ["literals", "pattern", "rule"]
theorem sc_looked_at : FnScope N_looked_at ["literals", "pattern"] (defScope t_looked_at) := ⟨rfl, rfl, rfl, by decide +kernel, rfl, by decide +kernel, by decide +kernel⟩

theorem b_looked_at {P : Program} {w : World} {K : Fr} {mg : Str → Option Value} {base : Heap} {f : Addr} {cdv : Value} {A : Around} {outer : List PySem.Env} {s : Shared} {H : Hp} {E : XK} {cf : CF} (B : Bu mg) (hu : (A.deeper (envOfC "looked_at" (defScope t_looked_at) s.heap.objs.size f cdv)).units + 70 < cLine) (hgd : (A.deeper (envOfC "looked_at" (defScope t_looked_at) s.heap.objs.size f cdv)).guards = some []) (c1 : Callee P w K mg base (A.deeper (envOfC "looked_at" (defScope t_looked_at) s.heap.objs.size f cdv)) cf "node_of" 1 2) (c9 : Callee P w K mg base (A.deeper (envOfC "looked_at" (defScope t_looked_at) s.heap.objs.size f cdv)) cf "whole_fault" 9 2) (c13 : Callee P w K mg base (A.deeper (envOfC "looked_at" (defScope t_looked_at) s.heap.objs.size f cdv)) cf "plain_rule" 13 1) :
    SSs (cxOf CX0 P w K mg base N_looked_at "looked_at" (defScope t_looked_at) f cdv A outer s H E).nox cf (defBody t_looked_at) c_looked_at :=
  have h64 : (A.deeper (envOfC "looked_at" (defScope t_looked_at) s.heap.objs.size f cdv)).units + 64 < cLine := by omega
  have h1 : (A.deeper (envOfC "looked_at" (defScope t_looked_at) s.heap.objs.size f cdv)).units + 1 < cLine := by omega
  have hc : (cxOf CX0 P w K mg base N_looked_at "looked_at" (defScope t_looked_at) f cdv A outer s H E).nox.calm = true := rfl
  have hN : (cxOf CX0 P w K mg base N_looked_at "looked_at" (defScope t_looked_at) f cdv A outer s H E).nox.N.Nodup := sc_looked_at.nd
  (ss_cons (ss_set 2 hN (se_call c13 rfl (sa_cons (se_v 0) sa_nil)))
    (ss_cons (ss_ex (se_call c9 rfl (sa_cons (se_v 2) (sa_cons (se_call c1 rfl (sa_cons (se_v 1) (sa_cons (se_tup sa_nil) sa_nil))) sa_nil))))
    (ss_cons (ss_ret (se_v 2))
    ss_nil)))

abbrev t_pattern_names : Stmt := top 18
def N_pattern_names : List Str := ["literals", "pattern"]
theorem sc_pattern_names : FnScope N_pattern_names ["literals", "pattern"] (defScope t_pattern_names) := ⟨rfl, rfl, rfl, by decide +kernel, rfl, by decide +kernel, by decide +kernel⟩

theorem b_pattern_names {P : Program} {w : World} {K : Fr} {mg : Str → Option Value} {base : Heap} {f : Addr} {cdv : Value} {A : Around} {outer : List PySem.Env} {s : Shared} {H : Hp} {E : XK} {cf : CF} (B : Bu mg) (hu : (A.deeper (envOfC "pattern_names" (defScope t_pattern_names) s.heap.objs.size f cdv)).units + 70 < cLine) (hgd : (A.deeper (envOfC "pattern_names" (defScope t_pattern_names) s.heap.objs.size f cdv)).guards = some []) (c15 : Callee P w K mg base (A.deeper (envOfC "pattern_names" (defScope t_pattern_names) s.heap.objs.size f cdv)) cf "looked_at" 15 2) :
    SSs (cxOf CX0 P w K mg base N_pattern_names "pattern_names" (defScope t_pattern_names) f cdv A outer s H E).nox cf (defBody t_pattern_names) c_pattern_names :=
  have h64 : (A.deeper (envOfC "pattern_names" (defScope t_pattern_names) s.heap.objs.size f cdv)).units + 64 < cLine := by omega
  have h1 : (A.deeper (envOfC "pattern_names" (defScope t_pattern_names) s.heap.objs.size f cdv)).units + 1 < cLine := by omega
  have hc : (cxOf CX0 P w K mg base N_pattern_names "pattern_names" (defScope t_pattern_names) f cdv A outer s H E).nox.calm = true := rfl
  have hN : (cxOf CX0 P w K mg base N_pattern_names "pattern_names" (defScope t_pattern_names) f cdv A outer s H E).nox.N.Nodup := sc_pattern_names.nd
  (ss_cons (ss_ret (se_biT call_tuple_D B.m_tuple PyProof.Rows.boot_tuple (sa_cons (se_items hc (se_ix h64 (se_call c15 rfl (sa_cons (se_v 0) (sa_cons (se_v 1) sa_nil))) se_str) B.m_list) sa_nil)))
    ss_nil)

abbrev t__law_begun : Stmt := top 20
def N__law_begun : List Str := ["script", "k", "cells", "great", "begun", "cell"]
theorem sc__law_begun : FnScope N__law_begun ["script", "k"] (defScope t__law_begun) := ⟨rfl, rfl, rfl, by decide +kernel, rfl, by decide +kernel, by decide +kernel⟩

theorem b__law_begun {P : Program} {w : World} {K : Fr} {mg : Str → Option Value} {base : Heap} {f : Addr} {cdv : Value} {A : Around} {outer : List PySem.Env} {s : Shared} {H : Hp} {E : XK} {cf : CF} (B : Bu mg) (hu : (A.deeper (envOfC "_law_begun" (defScope t__law_begun) s.heap.objs.size f cdv)).units + 70 < cLine) (hgd : (A.deeper (envOfC "_law_begun" (defScope t__law_begun) s.heap.objs.size f cdv)).guards = some []) :
    SSs (cxOf CX0 P w K mg base N__law_begun "_law_begun" (defScope t__law_begun) f cdv A outer s H E).nox cf (defBody t__law_begun) c__law_begun :=
  have h64 : (A.deeper (envOfC "_law_begun" (defScope t__law_begun) s.heap.objs.size f cdv)).units + 64 < cLine := by omega
  have h1 : (A.deeper (envOfC "_law_begun" (defScope t__law_begun) s.heap.objs.size f cdv)).units + 1 < cLine := by omega
  have hc : (cxOf CX0 P w K mg base N__law_begun "_law_begun" (defScope t__law_begun) f cdv A outer s H E).nox.calm = true := rfl
  have hN : (cxOf CX0 P w K mg base N__law_begun "_law_begun" (defScope t__law_begun) f cdv A outer s H E).nox.N.Nodup := sc__law_begun.nd
  (ss_cons (ss_set 2 hN (se_add (se_sl (se_v 0) (so_some (se_v 1)) so_none) (se_sl (se_v 0) so_none (so_some (se_v 1)))))
    (ss_cons (ss_setC (own := [("cell", 5)]) 3 hc hN rfl (si_seq (se_v 0)) (blkOk_by (by show blkC N__law_begun (defScope t__law_begun) _ _ = true; decide +kernel)) (by decide) rfl (tgOk_v 5) (fun _ _ _ _ _ => (pg_name (i := 5) hN rfl (by first | exact Or.inl rfl | exact Or.inr rfl))) (fun _ _ _ _ _ => (sp_one (st_ge (se_v 5) (se_pow se_int se_int)))) (fun _ _ _ _ _ => (se_v 5)))
    (ss_cons (ss_set 4 hN (se_add se_int (se_mul se_int (se_v 1))))
    (ss_cons (ss_for PassesOwn.never hc (si_seq (se_v 2)) (tg_v 5 hN)
     (ss_cons (ss_set 4 hN (se_mod (se_biT call_int_D B.m_int PyProof.Rows.boot_int (sa_cons (se_add (se_mul (se_v 4) se_int) (se_v 5)) sa_nil)) se_int))
      ss_nil))
    (ss_cons (ss_ret (se_dctM (ss := [s_left, s_seed, s_cells, s_spot, s_next]) (sd_cons (se_ite (st_lt (se_v 1) (se_biB call_len_D B.m_len PySem.boot_len (sa_cons (se_v 3) sa_nil))) (se_ix h64 (se_v 3) (se_v 1)) se_int) (sd_cons (se_v 4) (sd_cons (se_add (se_v 2) (se_lst (sa_cons (se_add (se_mul se_int (se_v 1)) se_int) sa_nil))) (sd_cons se_int (sd_cons se_int sd_nil)))))))
    ss_nil)))))

abbrev t__law_draw : Stmt := top 21
def N__law_draw : List Str := ["m", "below", "found", "spot", "cells", "added", "cell", "blend"]
theorem sc__law_draw : FnScope N__law_draw ["m", "below"] (defScope t__law_draw) := ⟨rfl, rfl, rfl, by decide +kernel, rfl, by decide +kernel, by decide +kernel⟩

theorem b__law_draw {P : Program} {w : World} {K : Fr} {mg : Str → Option Value} {base : Heap} {f : Addr} {cdv : Value} {A : Around} {outer : List PySem.Env} {s : Shared} {H : Hp} {E : XK} {cf : CF} (B : Bu mg) (hu : (A.deeper (envOfC "_law_draw" (defScope t__law_draw) s.heap.objs.size f cdv)).units + 70 < cLine) (hgd : (A.deeper (envOfC "_law_draw" (defScope t__law_draw) s.heap.objs.size f cdv)).guards = some []) :
    SSs (cxOf CX0 P w K mg base N__law_draw "_law_draw" (defScope t__law_draw) f cdv A outer s H E).nox cf (defBody t__law_draw) c__law_draw :=
  have h64 : (A.deeper (envOfC "_law_draw" (defScope t__law_draw) s.heap.objs.size f cdv)).units + 64 < cLine := by omega
  have h1 : (A.deeper (envOfC "_law_draw" (defScope t__law_draw) s.heap.objs.size f cdv)).units + 1 < cLine := by omega
  have hc : (cxOf CX0 P w K mg base N__law_draw "_law_draw" (defScope t__law_draw) f cdv A outer s H E).nox.calm = true := rfl
  have hN : (cxOf CX0 P w K mg base N__law_draw "_law_draw" (defScope t__law_draw) f cdv A outer s H E).nox.N.Nodup := sc__law_draw.nd
  (ss_cons (ss_if (st_gt (se_ix h64 (se_v 0) se_str) se_int)
     (ss_cons (ss_set 2 hN (se_mod (se_biT call_int_D B.m_int PyProof.Rows.boot_int (sa_cons (se_ix h64 (se_v 0) se_str) sa_nil)) (se_v 1)))
      (ss_cons (ss_setix h1 (se_fdiv (se_ix h64 (se_v 0) se_str) (se_v 1)) (se_v 0) se_str)
      (ss_cons (ss_ret (se_v 2))
      ss_nil)))
     ss_nil)
    (ss_cons (ss_set 3 hN (se_ix h64 (se_v 0) se_str))
    (ss_cons (ss_setix h1 (se_add (se_v 3) se_int) (se_v 0) se_str)
    (ss_cons (ss_par2 4 5 hc hN (by decide) (sa_cons (se_ix h64 (se_v 0) se_str) (sa_cons (se_add (se_ix h64 (se_v 0) se_str) (se_mul (se_mul se_int (se_v 3)) (se_v 3))) sa_nil)))
    (ss_cons (ss_set 6 hN (se_ix h64 (se_v 4) (se_mod (se_biT call_int_D B.m_int PyProof.Rows.boot_int (sa_cons (se_v 3) sa_nil)) (se_biB call_len_D B.m_len PySem.boot_len (sa_cons (se_v 4) sa_nil)))))
    (ss_cons (ss_set 7 hN (se_mod (se_biT call_int_D B.m_int PyProof.Rows.boot_int (sa_cons (se_add (se_mul (se_v 6) (se_add (se_mul se_int (se_v 3)) se_int)) (se_v 5)) sa_nil)) se_int))
    (ss_cons (ss_set 7 hN (se_mod (se_biT call_int_D B.m_int PyProof.Rows.boot_int (sa_cons (se_add (se_add (se_mul (se_v 7) (se_v 7)) (se_mul se_int (se_v 3))) (se_ix h64 (se_v 0) se_str)) sa_nil)) se_int))
    (ss_cons (ss_ret (se_mod (se_fdiv (se_mod (se_biT call_int_D B.m_int PyProof.Rows.boot_int (sa_cons (se_add (se_mul (se_v 7) se_int) (se_v 3)) sa_nil)) se_int) se_int) (se_v 1)))
    ss_nil))))))))

abbrev t__law_of : Stmt := top 22
def N__law_of : List Str := ["m", "some"]
theorem sc__law_of : FnScope N__law_of ["m", "some"] (defScope t__law_of) := ⟨rfl, rfl, rfl, by decide +kernel, rfl, by decide +kernel, by decide +kernel⟩

theorem b__law_of {P : Program} {w : World} {K : Fr} {mg : Str → Option Value} {base : Heap} {f : Addr} {cdv : Value} {A : Around} {outer : List PySem.Env} {s : Shared} {H : Hp} {E : XK} {cf : CF} (B : Bu mg) (hu : (A.deeper (envOfC "_law_of" (defScope t__law_of) s.heap.objs.size f cdv)).units + 70 < cLine) (hgd : (A.deeper (envOfC "_law_of" (defScope t__law_of) s.heap.objs.size f cdv)).guards = some []) (c18 : Callee P w K mg base (A.deeper (envOfC "_law_of" (defScope t__law_of) s.heap.objs.size f cdv)) cf "_law_draw" 18 2) :
    SSs (cxOf CX0 P w K mg base N__law_of "_law_of" (defScope t__law_of) f cdv A outer s H E).nox cf (defBody t__law_of) c__law_of :=
  have h64 : (A.deeper (envOfC "_law_of" (defScope t__law_of) s.heap.objs.size f cdv)).units + 64 < cLine := by omega
  have h1 : (A.deeper (envOfC "_law_of" (defScope t__law_of) s.heap.objs.size f cdv)).units + 1 < cLine := by omega
  have hc : (cxOf CX0 P w K mg base N__law_of "_law_of" (defScope t__law_of) f cdv A outer s H E).nox.calm = true := rfl
  have hN : (cxOf CX0 P w K mg base N__law_of "_law_of" (defScope t__law_of) f cdv A outer s H E).nox.N.Nodup := sc__law_of.nd
  (ss_cons (ss_ret (se_ix h64 (se_v 1) (se_call c18 rfl (sa_cons (se_v 0) (sa_cons (se_biB call_len_D B.m_len PySem.boot_len (sa_cons (se_v 1) sa_nil)) sa_nil)))))
    ss_nil)

abbrev t__law_w : Stmt := top 23
def N__law_w : List Str := ["word"]
theorem sc__law_w : FnScope N__law_w ["word"] (defScope t__law_w) := ⟨rfl, rfl, rfl, by decide +kernel, rfl, by decide +kernel, by decide +kernel⟩

theorem b__law_w {P : Program} {w : World} {K : Fr} {mg : Str → Option Value} {base : Heap} {f : Addr} {cdv : Value} {A : Around} {outer : List PySem.Env} {s : Shared} {H : Hp} {E : XK} {cf : CF} (B : Bu mg) (hu : (A.deeper (envOfC "_law_w" (defScope t__law_w) s.heap.objs.size f cdv)).units + 70 < cLine) (hgd : (A.deeper (envOfC "_law_w" (defScope t__law_w) s.heap.objs.size f cdv)).guards = some []) :
    SSs (cxOf CX0 P w K mg base N__law_w "_law_w" (defScope t__law_w) f cdv A outer s H E).nox cf (defBody t__law_w) c__law_w :=
  have h64 : (A.deeper (envOfC "_law_w" (defScope t__law_w) s.heap.objs.size f cdv)).units + 64 < cLine := by omega
  have h1 : (A.deeper (envOfC "_law_w" (defScope t__law_w) s.heap.objs.size f cdv)).units + 1 < cLine := by omega
  have hc : (cxOf CX0 P w K mg base N__law_w "_law_w" (defScope t__law_w) f cdv A outer s H E).nox.calm = true := rfl
  have hN : (cxOf CX0 P w K mg base N__law_w "_law_w" (defScope t__law_w) f cdv A outer s H E).nox.N.Nodup := sc__law_w.nd
  (ss_cons (ss_ret (se_tup (sa_cons se_str (sa_cons (se_v 0) sa_nil))))
    ss_nil)

abbrev t__law_is_list : Stmt := top 24
def N__law_is_list : List Str := ["datum"]
theorem sc__law_is_list : FnScope N__law_is_list ["datum"] (defScope t__law_is_list) := ⟨rfl, rfl, rfl, by decide +kernel, rfl, by decide +kernel, by decide +kernel⟩

theorem b__law_is_list {P : Program} {w : World} {K : Fr} {mg : Str → Option Value} {base : Heap} {f : Addr} {cdv : Value} {A : Around} {outer : List PySem.Env} {s : Shared} {H : Hp} {E : XK} {cf : CF} (B : Bu mg) (hu : (A.deeper (envOfC "_law_is_list" (defScope t__law_is_list) s.heap.objs.size f cdv)).units + 70 < cLine) (hgd : (A.deeper (envOfC "_law_is_list" (defScope t__law_is_list) s.heap.objs.size f cdv)).guards = some []) :
    SSs (cxOf CX0 P w K mg base N__law_is_list "_law_is_list" (defScope t__law_is_list) f cdv A outer s H E).nox cf (defBody t__law_is_list) c__law_is_list :=
  have h64 : (A.deeper (envOfC "_law_is_list" (defScope t__law_is_list) s.heap.objs.size f cdv)).units + 64 < cLine := by omega
  have h1 : (A.deeper (envOfC "_law_is_list" (defScope t__law_is_list) s.heap.objs.size f cdv)).units + 1 < cLine := by omega
  have hc : (cxOf CX0 P w K mg base N__law_is_list "_law_is_list" (defScope t__law_is_list) f cdv A outer s H E).nox.calm = true := rfl
  have hN : (cxOf CX0 P w K mg base N__law_is_list "_law_is_list" (defScope t__law_is_list) f cdv A outer s H E).nox.N.Nodup := sc__law_is_list.nd
  (ss_cons (ss_ret (se_and (se_isin .tuple B.m_isinstance B.m_tuple PyProof.Rows.boot_tuple (se_v 0)) (se_one (se_eq h64 (se_biB call_len_D B.m_len PySem.boot_len (sa_cons (se_v 0) sa_nil)) se_int))))
    ss_nil)

abbrev t__law_is_word : Stmt := top 25
def N__law_is_word : List Str := ["datum"]
theorem sc__law_is_word : FnScope N__law_is_word ["datum"] (defScope t__law_is_word) := ⟨rfl, rfl, rfl, by decide +kernel, rfl, by decide +kernel, by decide +kernel⟩

theorem b__law_is_word {P : Program} {w : World} {K : Fr} {mg : Str → Option Value} {base : Heap} {f : Addr} {cdv : Value} {A : Around} {outer : List PySem.Env} {s : Shared} {H : Hp} {E : XK} {cf : CF} (B : Bu mg) (hu : (A.deeper (envOfC "_law_is_word" (defScope t__law_is_word) s.heap.objs.size f cdv)).units + 70 < cLine) (hgd : (A.deeper (envOfC "_law_is_word" (defScope t__law_is_word) s.heap.objs.size f cdv)).guards = some []) :
    SSs (cxOf CX0 P w K mg base N__law_is_word "_law_is_word" (defScope t__law_is_word) f cdv A outer s H E).nox cf (defBody t__law_is_word) c__law_is_word :=
  have h64 : (A.deeper (envOfC "_law_is_word" (defScope t__law_is_word) s.heap.objs.size f cdv)).units + 64 < cLine := by omega
  have h1 : (A.deeper (envOfC "_law_is_word" (defScope t__law_is_word) s.heap.objs.size f cdv)).units + 1 < cLine := by omega
  have hc : (cxOf CX0 P w K mg base N__law_is_word "_law_is_word" (defScope t__law_is_word) f cdv A outer s H E).nox.calm = true := rfl
  have hN : (cxOf CX0 P w K mg base N__law_is_word "_law_is_word" (defScope t__law_is_word) f cdv A outer s H E).nox.N.Nodup := sc__law_is_word.nd
  (ss_cons (ss_ret (se_and (se_isin .tuple B.m_isinstance B.m_tuple PyProof.Rows.boot_tuple (se_v 0)) (se_one (se_eq h64 (se_biB call_len_D B.m_len PySem.boot_len (sa_cons (se_v 0) sa_nil)) se_int))))
    ss_nil)

abbrev t__law_is_mark : Stmt := top 26
def N__law_is_mark : List Str := ["datum"]
theorem sc__law_is_mark : FnScope N__law_is_mark ["datum"] (defScope t__law_is_mark) := ⟨rfl, rfl, rfl, by decide +kernel, rfl, by decide +kernel, by decide +kernel⟩

theorem b__law_is_mark {P : Program} {w : World} {K : Fr} {mg : Str → Option Value} {base : Heap} {f : Addr} {cdv : Value} {A : Around} {outer : List PySem.Env} {s : Shared} {H : Hp} {E : XK} {cf : CF} (B : Bu mg) (hu : (A.deeper (envOfC "_law_is_mark" (defScope t__law_is_mark) s.heap.objs.size f cdv)).units + 70 < cLine) (hgd : (A.deeper (envOfC "_law_is_mark" (defScope t__law_is_mark) s.heap.objs.size f cdv)).guards = some []) :
    SSs (cxOf CX0 P w K mg base N__law_is_mark "_law_is_mark" (defScope t__law_is_mark) f cdv A outer s H E).nox cf (defBody t__law_is_mark) c__law_is_mark :=
  have h64 : (A.deeper (envOfC "_law_is_mark" (defScope t__law_is_mark) s.heap.objs.size f cdv)).units + 64 < cLine := by omega
  have h1 : (A.deeper (envOfC "_law_is_mark" (defScope t__law_is_mark) s.heap.objs.size f cdv)).units + 1 < cLine := by omega
  have hc : (cxOf CX0 P w K mg base N__law_is_mark "_law_is_mark" (defScope t__law_is_mark) f cdv A outer s H E).nox.calm = true := rfl
  have hN : (cxOf CX0 P w K mg base N__law_is_mark "_law_is_mark" (defScope t__law_is_mark) f cdv A outer s H E).nox.N.Nodup := sc__law_is_mark.nd
  (ss_cons (ss_ret (se_eq h64 (se_v 0) (se_tup (sa_cons se_str (sa_cons se_str sa_nil)))))
    ss_nil)

abbrev t__law_words_in : Stmt := top 27
def N__law_words_in : List Str := ["datum", "found", "part"]
theorem sc__law_words_in : FnScope N__law_words_in ["datum"] (defScope t__law_words_in) := ⟨rfl, rfl, rfl, by decide +kernel, rfl, by decide +kernel, by decide +kernel⟩

theorem b__law_words_in {P : Program} {w : World} {K : Fr} {mg : Str → Option Value} {base : Heap} {f : Addr} {cdv : Value} {A : Around} {outer : List PySem.Env} {s : Shared} {H : Hp} {E : XK} {cf : CF} (B : Bu mg) (hu : (A.deeper (envOfC "_law_words_in" (defScope t__law_words_in) s.heap.objs.size f cdv)).units + 70 < cLine) (hgd : (A.deeper (envOfC "_law_words_in" (defScope t__law_words_in) s.heap.objs.size f cdv)).guards = some []) (c21 : Callee P w K mg base (A.deeper (envOfC "_law_words_in" (defScope t__law_words_in) s.heap.objs.size f cdv)) cf "_law_is_list" 21 1) (c22 : Callee P w K mg base (A.deeper (envOfC "_law_words_in" (defScope t__law_words_in) s.heap.objs.size f cdv)) cf "_law_is_word" 22 1) (c24 : Callee P w K mg base (A.deeper (envOfC "_law_words_in" (defScope t__law_words_in) s.heap.objs.size f cdv)) cf "_law_words_in" 24 1) :
    SSs (cxOf CX0 P w K mg base N__law_words_in "_law_words_in" (defScope t__law_words_in) f cdv A outer s H E).nox cf (defBody t__law_words_in) c__law_words_in :=
  have h64 : (A.deeper (envOfC "_law_words_in" (defScope t__law_words_in) s.heap.objs.size f cdv)).units + 64 < cLine := by omega
  have h1 : (A.deeper (envOfC "_law_words_in" (defScope t__law_words_in) s.heap.objs.size f cdv)).units + 1 < cLine := by omega
  have hc : (cxOf CX0 P w K mg base N__law_words_in "_law_words_in" (defScope t__law_words_in) f cdv A outer s H E).nox.calm = true := rfl
  have hN : (cxOf CX0 P w K mg base N__law_words_in "_law_words_in" (defScope t__law_words_in) f cdv A outer s H E).nox.N.Nodup := sc__law_words_in.nd
  (ss_cons (ss_if (st_tru (se_call c21 rfl (sa_cons (se_v 0) sa_nil)))
     (ss_cons (ss_set 1 hN (se_lst sa_nil))
      (ss_cons (ss_for PassesOwn.never hc (si_seq (se_add (se_ix h64 (se_v 0) se_int) (se_tup (sa_cons (se_ix h64 (se_v 0) se_int) sa_nil)))) (tg_v 2 hN)
       (ss_cons (ss_set 1 hN (se_add (se_v 1) (se_call c24 rfl (sa_cons (se_v 2) sa_nil))))
        ss_nil))
      (ss_cons (ss_ret (se_v 1))
      ss_nil)))
     ss_nil)
    (ss_cons (ss_ret (se_ite (st_tru (se_call c22 rfl (sa_cons (se_v 0) sa_nil))) (se_lst (sa_cons (se_ix h64 (se_v 0) se_int) sa_nil)) (se_lst sa_nil)))
    ss_nil))

abbrev t__law_p_fault : Stmt := top 28
def N__law_p_fault : List Str := ["datum", "path", "literals", "names", "depth"]
theorem sc__law_p_fault : FnScope N__law_p_fault ["datum", "path", "literals", "names", "depth"] (defScope t__law_p_fault) := ⟨rfl, rfl, rfl, by decide +kernel, rfl, by decide +kernel, by decide +kernel⟩

theorem b__law_p_fault {P : Program} {w : World} {K : Fr} {mg : Str → Option Value} {base : Heap} {f : Addr} {cdv : Value} {A : Around} {outer : List PySem.Env} {s : Shared} {H : Hp} {E : XK} {cf : CF} (B : Bu mg) (hu : (A.deeper (envOfC "_law_p_fault" (defScope t__law_p_fault) s.heap.objs.size f cdv)).units + 70 < cLine) (hgd : (A.deeper (envOfC "_law_p_fault" (defScope t__law_p_fault) s.heap.objs.size f cdv)).guards = some []) (c21 : Callee P w K mg base (A.deeper (envOfC "_law_p_fault" (defScope t__law_p_fault) s.heap.objs.size f cdv)) cf "_law_is_list" 21 1) (c22 : Callee P w K mg base (A.deeper (envOfC "_law_p_fault" (defScope t__law_p_fault) s.heap.objs.size f cdv)) cf "_law_is_word" 22 1) (c26 : Callee P w K mg base (A.deeper (envOfC "_law_p_fault" (defScope t__law_p_fault) s.heap.objs.size f cdv)) cf "_law_p_items" 26 6) :
    SSs (cxOf CX0 P w K mg base N__law_p_fault "_law_p_fault" (defScope t__law_p_fault) f cdv A outer s H E).nox cf (defBody t__law_p_fault) c__law_p_fault :=
  have h64 : (A.deeper (envOfC "_law_p_fault" (defScope t__law_p_fault) s.heap.objs.size f cdv)).units + 64 < cLine := by omega
  have h1 : (A.deeper (envOfC "_law_p_fault" (defScope t__law_p_fault) s.heap.objs.size f cdv)).units + 1 < cLine := by omega
  have hc : (cxOf CX0 P w K mg base N__law_p_fault "_law_p_fault" (defScope t__law_p_fault) f cdv A outer s H E).nox.calm = true := rfl
  have hN : (cxOf CX0 P w K mg base N__law_p_fault "_law_p_fault" (defScope t__law_p_fault) f cdv A outer s H E).nox.N.Nodup := sc__law_p_fault.nd
  (ss_cons (ss_if (st_tru (se_call c21 rfl (sa_cons (se_v 0) sa_nil)))
     (ss_cons (ss_ret (se_call c26 rfl (sa_cons (se_v 0) (sa_cons se_int (sa_cons (se_v 1) (sa_cons (se_v 2) (sa_cons (se_v 3) (sa_cons (se_v 4) sa_nil))))))))
      ss_nil)
     ss_nil)
    (ss_cons (ss_if (st_tru (se_call c22 rfl (sa_cons (se_v 0) sa_nil)))
     (ss_cons (ss_if (st_w (sw_or (st_eq h64 (se_ix h64 (se_v 0) se_int) se_str) (sw_or1 (st_mem h64 (se_ix h64 (se_v 0) se_int) (se_v 3)))))
       (ss_cons (ss_ret (se_v 1))
        ss_nil)
       ss_nil)
      (ss_cons (ss_if (st_w (sw_and (st_nmem h64 (se_ix h64 (se_v 0) se_int) (se_v 2)) (sw_and1 (st_ne h64 (se_ix h64 (se_v 0) se_int) se_str))))
       (ss_cons (ss_setix h1 (se_v 4) (se_v 3) (se_ix h64 (se_v 0) se_int))
        ss_nil)
       ss_nil)
      ss_nil))
     ss_nil)
    (ss_cons (ss_ret se_non)
    ss_nil)))

abbrev t__law_p_items : Stmt := top 29
def N__law_p_items : List Str := ["datum", "begin", "path", "literals", "names", "depth", "items", "marks", "k", "more", "fault"]
theorem sc__law_p_items : FnScope N__law_p_items ["datum", "begin", "path", "literals", "names", "depth"] (defScope t__law_p_items) := ⟨rfl, rfl, rfl, by decide +kernel, rfl, by decide +kernel, by decide +kernel⟩

theorem b__law_p_items {P : Program} {w : World} {K : Fr} {mg : Str → Option Value} {base : Heap} {f : Addr} {cdv : Value} {A : Around} {outer : List PySem.Env} {s : Shared} {H : Hp} {E : XK} {cf : CF} (B : Bu mg) (hu : (A.deeper (envOfC "_law_p_items" (defScope t__law_p_items) s.heap.objs.size f cdv)).units + 70 < cLine) (hgd : (A.deeper (envOfC "_law_p_items" (defScope t__law_p_items) s.heap.objs.size f cdv)).guards = some []) (c23 : Callee P w K mg base (A.deeper (envOfC "_law_p_items" (defScope t__law_p_items) s.heap.objs.size f cdv)) cf "_law_is_mark" 23 1) (c25 : Callee P w K mg base (A.deeper (envOfC "_law_p_items" (defScope t__law_p_items) s.heap.objs.size f cdv)) cf "_law_p_fault" 25 5) :
    SSs (cxOf CX0 P w K mg base N__law_p_items "_law_p_items" (defScope t__law_p_items) f cdv A outer s H E).nox cf (defBody t__law_p_items) c__law_p_items :=
  have h64 : (A.deeper (envOfC "_law_p_items" (defScope t__law_p_items) s.heap.objs.size f cdv)).units + 64 < cLine := by omega
  have h1 : (A.deeper (envOfC "_law_p_items" (defScope t__law_p_items) s.heap.objs.size f cdv)).units + 1 < cLine := by omega
  have hc : (cxOf CX0 P w K mg base N__law_p_items "_law_p_items" (defScope t__law_p_items) f cdv A outer s H E).nox.calm = true := rfl
  have hN : (cxOf CX0 P w K mg base N__law_p_items "_law_p_items" (defScope t__law_p_items) f cdv A outer s H E).nox.N.Nodup := sc__law_p_items.nd
  (ss_cons (ss_par2 6 7 hc hN (by decide) (sa_cons (se_ix h64 (se_v 0) se_int) (sa_cons se_int sa_nil)))
    (ss_cons (ss_for PassesOwn.never hc (si_range2 B.m_range (se_v 1) (se_biB call_len_D B.m_len PySem.boot_len (sa_cons (se_v 6) sa_nil))) (tg_v 8 hN)
     (ss_cons (ss_if (st_tru (se_call c23 rfl (sa_cons (se_ix h64 (se_v 6) (se_v 8)) sa_nil)))
       (ss_cons (ss_set 7 hN (se_add (se_v 7) se_int))
        (ss_cons (ss_if (st_w (sw_or (st_eq h64 (se_v 8) (se_v 1)) (sw_or1 (st_gt (se_v 7) se_int))))
         (ss_cons (ss_ret (se_add (se_v 2) (se_tup (sa_cons (se_v 8) sa_nil))))
          ss_nil)
         ss_nil)
        ss_nil))
       (ss_cons (ss_set 9 hN (se_ite (st_w (sw_and (st_lt (se_add (se_v 8) se_int) (se_biB call_len_D B.m_len PySem.boot_len (sa_cons (se_v 6) sa_nil))) (sw_and1 (st_tru (se_call c23 rfl (sa_cons (se_ix h64 (se_v 6) (se_add (se_v 8) se_int)) sa_nil)))))) se_int se_int))
        (ss_cons (ss_set 10 hN (se_call c25 rfl (sa_cons (se_ix h64 (se_v 6) (se_v 8)) (sa_cons (se_add (se_v 2) (se_tup (sa_cons (se_v 8) sa_nil))) (sa_cons (se_v 3) (sa_cons (se_v 4) (sa_cons (se_add (se_v 5) (se_v 9)) sa_nil)))))))
        (ss_cons (ss_if (st_notN (se_v 10))
         (ss_cons (ss_ret (se_v 10))
          ss_nil)
         ss_nil)
        ss_nil))))
      ss_nil))
    (ss_cons (ss_ret (se_call c25 rfl (sa_cons (se_ix h64 (se_v 0) se_int) (sa_cons (se_add (se_v 2) (se_tup (sa_cons (se_biB call_len_D B.m_len PySem.boot_len (sa_cons (se_v 6) sa_nil)) sa_nil))) (sa_cons (se_v 3) (sa_cons (se_v 4) (sa_cons (se_v 5) sa_nil)))))))
    ss_nil)))

abbrev t__law_t_fault : Stmt := top 30
def N__law_t_fault : List Str := ["datum", "path", "names", "depth", "is_bare", "items", "k", "item", "more", "fault", "word"]
theorem sc__law_t_fault : FnScope N__law_t_fault ["datum", "path", "names", "depth", "is_bare"] (defScope t__law_t_fault) := ⟨rfl, rfl, rfl, by decide +kernel, rfl, by decide +kernel, by decide +kernel⟩

theorem b__law_t_fault {P : Program} {w : World} {K : Fr} {mg : Str → Option Value} {base : Heap} {f : Addr} {cdv : Value} {A : Around} {outer : List PySem.Env} {s : Shared} {H : Hp} {E : XK} {cf : CF} (B : Bu mg) (hu : (A.deeper (envOfC "_law_t_fault" (defScope t__law_t_fault) s.heap.objs.size f cdv)).units + 70 < cLine) (hgd : (A.deeper (envOfC "_law_t_fault" (defScope t__law_t_fault) s.heap.objs.size f cdv)).guards = some []) (c21 : Callee P w K mg base (A.deeper (envOfC "_law_t_fault" (defScope t__law_t_fault) s.heap.objs.size f cdv)) cf "_law_is_list" 21 1) (c22 : Callee P w K mg base (A.deeper (envOfC "_law_t_fault" (defScope t__law_t_fault) s.heap.objs.size f cdv)) cf "_law_is_word" 22 1) (c23 : Callee P w K mg base (A.deeper (envOfC "_law_t_fault" (defScope t__law_t_fault) s.heap.objs.size f cdv)) cf "_law_is_mark" 23 1) (c24 : Callee P w K mg base (A.deeper (envOfC "_law_t_fault" (defScope t__law_t_fault) s.heap.objs.size f cdv)) cf "_law_words_in" 24 1) (c27 : Callee P w K mg base (A.deeper (envOfC "_law_t_fault" (defScope t__law_t_fault) s.heap.objs.size f cdv)) cf "_law_t_fault" 27 5) :
    SSs (cxOf CX0 P w K mg base N__law_t_fault "_law_t_fault" (defScope t__law_t_fault) f cdv A outer s H E).nox cf (defBody t__law_t_fault) c__law_t_fault :=
  have h64 : (A.deeper (envOfC "_law_t_fault" (defScope t__law_t_fault) s.heap.objs.size f cdv)).units + 64 < cLine := by omega
  have h1 : (A.deeper (envOfC "_law_t_fault" (defScope t__law_t_fault) s.heap.objs.size f cdv)).units + 1 < cLine := by omega
  have hc : (cxOf CX0 P w K mg base N__law_t_fault "_law_t_fault" (defScope t__law_t_fault) f cdv A outer s H E).nox.calm = true := rfl
  have hN : (cxOf CX0 P w K mg base N__law_t_fault "_law_t_fault" (defScope t__law_t_fault) f cdv A outer s H E).nox.N.Nodup := sc__law_t_fault.nd
  (ss_cons (ss_if (st_tru (se_call c22 rfl (sa_cons (se_v 0) sa_nil)))
     (ss_cons (ss_if (st_mem h64 (se_ix h64 (se_v 0) se_int) (se_v 2))
       (ss_cons (ss_ret (se_ite (st_eq h64 (se_ix h64 (se_v 2) (se_ix h64 (se_v 0) se_int)) (se_v 3)) se_non (se_v 1)))
        ss_nil)
       ss_nil)
      (ss_cons (ss_ret (se_ite (st_w (sw_and (st_not (st_tru (se_v 4))) (sw_and1 (st_tru (se_call c23 rfl (sa_cons (se_v 0) sa_nil)))))) (se_v 1) se_non))
      ss_nil))
     ss_nil)
    (ss_cons (ss_if (st_not (st_tru (se_call c21 rfl (sa_cons (se_v 0) sa_nil))))
     (ss_cons (ss_ret se_non)
      ss_nil)
     ss_nil)
    (ss_cons (ss_set 5 hN (se_ix h64 (se_v 0) se_int))
    (ss_cons (ss_if (st_w (sw_and (st_not (st_tru (se_v 4))) (sw_and (st_eq h64 (se_biB call_len_D B.m_len PySem.boot_len (sa_cons (se_v 5) sa_nil)) se_int) (sw_and (st_tru (se_call c23 rfl (sa_cons (se_ix h64 (se_v 5) se_int) sa_nil))) (sw_and1 (st_reprNil hgd hu B.m_repr (se_ix h64 (se_v 0) se_int)))))))
     (ss_cons (ss_ret (se_call c27 rfl (sa_cons (se_ix h64 (se_v 5) se_int) (sa_cons (se_add (se_v 1) (se_tup (sa_cons se_int sa_nil))) (sa_cons (se_v 2) (sa_cons (se_v 3) (sa_cons se_bl sa_nil)))))))
      ss_nil)
     ss_nil)
    (ss_cons (ss_for PassesOwn.never hc (si_enum B.m_enumerate (se_v 5)) (tg_tup (is := [6, 7]) hc (pgs_cons (pg_name (i := 6) hN rfl (by first | exact Or.inl rfl | exact Or.inr rfl)) (pgs_cons (pg_name (i := 7) hN rfl (by first | exact Or.inl rfl | exact Or.inr rfl)) pgs_nil)))
     (ss_cons (ss_if (st_w (sw_and (st_not (st_tru (se_v 4))) (sw_and1 (st_tru (se_call c23 rfl (sa_cons (se_v 7) sa_nil))))))
       (ss_cons (ss_if (st_w (sw_or (st_eq h64 (se_v 6) se_int) (sw_or1 (st_tru (se_call c23 rfl (sa_cons (se_ix h64 (se_v 5) (se_sub (se_v 6) se_int)) sa_nil))))))
         (ss_cons (ss_ret (se_add (se_v 1) (se_tup (sa_cons (se_v 6) sa_nil))))
          ss_nil)
         ss_nil)
        (ss_cons ss_cont
        ss_nil))
       ss_nil)
      (ss_cons (ss_set 8 hN (se_ite (st_w (sw_and (st_not (st_tru (se_v 4))) (sw_and (st_lt (se_add (se_v 6) se_int) (se_biB call_len_D B.m_len PySem.boot_len (sa_cons (se_v 5) sa_nil))) (sw_and1 (st_tru (se_call c23 rfl (sa_cons (se_ix h64 (se_v 5) (se_add (se_v 6) se_int)) sa_nil))))))) se_int se_int))
      (ss_cons (ss_if (st_w (sw_and (st_eq h64 (se_v 8) se_int) (sw_and1 (st_eq h64 (se_comp (own := [("word", 10)]) hc hN (si_seq (se_call c24 rfl (sa_cons (se_v 7) sa_nil))) (blkOk_by (by show blkC N__law_t_fault (defScope t__law_t_fault) _ _ = true; decide +kernel)) (by decide) rfl (tgOk_v 10) (fun _ _ _ _ _ => (pg_name (i := 10) hN rfl (by first | exact Or.inl rfl | exact Or.inr rfl))) (fun _ _ _ _ _ => (sp_one (st_mem h64 (se_v 10) (se_v 2)))) (fun _ _ _ _ _ => (se_v 10))) (se_lst sa_nil)))))
       (ss_cons (ss_ret (se_add (se_v 1) (se_tup (sa_cons (se_v 6) sa_nil))))
        ss_nil)
       ss_nil)
      (ss_cons (ss_set 9 hN (se_call c27 rfl (sa_cons (se_v 7) (sa_cons (se_add (se_v 1) (se_tup (sa_cons (se_v 6) sa_nil))) (sa_cons (se_v 2) (sa_cons (se_add (se_v 3) (se_v 8)) (sa_cons (se_v 4) sa_nil)))))))
      (ss_cons (ss_if (st_notN (se_v 9))
       (ss_cons (ss_ret (se_v 9))
        ss_nil)
       ss_nil)
      ss_nil))))))
    (ss_cons (ss_ret (se_call c27 rfl (sa_cons (se_ix h64 (se_v 0) se_int) (sa_cons (se_add (se_v 1) (se_tup (sa_cons (se_biB call_len_D B.m_len PySem.boot_len (sa_cons (se_v 5) sa_nil)) sa_nil))) (sa_cons (se_v 2) (sa_cons (se_v 3) (sa_cons (se_v 4) sa_nil)))))))
    ss_nil))))))

abbrev t__law_pattern : Stmt := top 31
def N__law_pattern : List Str := ["m", "size", "way", "items", "spot", "tail", "k"]
theorem sc__law_pattern : FnScope N__law_pattern ["m", "size"] (defScope t__law_pattern) := ⟨rfl, rfl, rfl, by decide +kernel, rfl, by decide +kernel, by decide +kernel⟩

theorem b__law_pattern {P : Program} {w : World} {K : Fr} {mg : Str → Option Value} {base : Heap} {f : Addr} {cdv : Value} {A : Around} {outer : List PySem.Env} {s : Shared} {H : Hp} {E : XK} {cf : CF} (B : Bu mg) (hu : (A.deeper (envOfC "_law_pattern" (defScope t__law_pattern) s.heap.objs.size f cdv)).units + 70 < cLine) (hgd : (A.deeper (envOfC "_law_pattern" (defScope t__law_pattern) s.heap.objs.size f cdv)).guards = some []) (c18 : Callee P w K mg base (A.deeper (envOfC "_law_pattern" (defScope t__law_pattern) s.heap.objs.size f cdv)) cf "_law_draw" 18 2) (c19 : Callee P w K mg base (A.deeper (envOfC "_law_pattern" (defScope t__law_pattern) s.heap.objs.size f cdv)) cf "_law_of" 19 2) (c20 : Callee P w K mg base (A.deeper (envOfC "_law_pattern" (defScope t__law_pattern) s.heap.objs.size f cdv)) cf "_law_w" 20 1) (c28 : Callee P w K mg base (A.deeper (envOfC "_law_pattern" (defScope t__law_pattern) s.heap.objs.size f cdv)) cf "_law_pattern" 28 2) :
    SSs (cxOf CX0 P w K mg base N__law_pattern "_law_pattern" (defScope t__law_pattern) f cdv A outer s H E).nox cf (defBody t__law_pattern) c__law_pattern :=
  have h64 : (A.deeper (envOfC "_law_pattern" (defScope t__law_pattern) s.heap.objs.size f cdv)).units + 64 < cLine := by omega
  have h1 : (A.deeper (envOfC "_law_pattern" (defScope t__law_pattern) s.heap.objs.size f cdv)).units + 1 < cLine := by omega
  have hc : (cxOf CX0 P w K mg base N__law_pattern "_law_pattern" (defScope t__law_pattern) f cdv A outer s H E).nox.calm = true := rfl
  have hN : (cxOf CX0 P w K mg base N__law_pattern "_law_pattern" (defScope t__law_pattern) f cdv A outer s H E).nox.N.Nodup := sc__law_pattern.nd
  (ss_cons (ss_set 2 hN (se_ite (st_gt (se_v 1) se_int) (se_call c18 rfl (sa_cons (se_v 0) (sa_cons se_int sa_nil))) (se_call c18 rfl (sa_cons (se_v 0) (sa_cons se_int sa_nil)))))
    (ss_cons (ss_if (st_lt (se_v 2) se_int)
     (ss_cons (ss_setix h1 (se_add (se_ix h64 (se_v 0) se_str) se_int) (se_v 0) se_str)
      (ss_cons (ss_ret (se_call c20 rfl (sa_cons (se_add se_str (se_biT call_str_D B.m_str PyProof.Rows.boot_str (sa_cons (se_ix h64 (se_v 0) se_str) sa_nil))) sa_nil)))
      ss_nil))
     ss_nil)
    (ss_cons (ss_if (st_lt (se_v 2) se_int)
     (ss_cons (ss_ret (se_call c19 rfl (sa_cons (se_v 0) (sa_cons (se_lst (sa_cons (se_call c20 rfl (sa_cons se_str sa_nil)) (sa_cons (se_call c20 rfl (sa_cons se_str sa_nil)) (sa_cons se_int (sa_cons se_bl (sa_cons (se_tup sa_nil) sa_nil)))))) sa_nil))))
      ss_nil)
     ss_nil)
    (ss_cons (ss_setC (own := [("k", 6)]) 3 hc hN rfl (si_range1 B.m_range (se_add se_int (se_call c18 rfl (sa_cons (se_v 0) (sa_cons se_int sa_nil))))) (blkOk_by (by show blkC N__law_pattern (defScope t__law_pattern) _ _ = true; decide +kernel)) (by decide) rfl (tgOk_v 6) (fun _ _ _ _ _ => (pg_name (i := 6) hN rfl (by first | exact Or.inl rfl | exact Or.inr rfl))) (fun _ _ _ _ _ => sp_nil) (fun _ _ _ _ _ => (se_call c28 rfl (sa_cons (se_v 0) (sa_cons (se_sub (se_v 1) se_int) sa_nil)))))
    (ss_cons (ss_if (st_eq h64 (se_call c18 rfl (sa_cons (se_v 0) (sa_cons se_int sa_nil))) se_int)
     (ss_cons (ss_set 4 hN (se_add se_int (se_call c18 rfl (sa_cons (se_v 0) (sa_cons (se_biB call_len_D B.m_len PySem.boot_len (sa_cons (se_v 3) sa_nil)) sa_nil)))))
      (ss_cons (ss_set 3 hN (se_add (se_add (se_sl (se_v 3) so_none (so_some (se_v 4))) (se_lst (sa_cons (se_call c20 rfl (sa_cons se_str sa_nil)) sa_nil))) (se_sl (se_v 3) (so_some (se_v 4)) so_none)))
      ss_nil))
     ss_nil)
    (ss_cons (ss_set 5 hN (se_ite (st_eq h64 (se_call c18 rfl (sa_cons (se_v 0) (sa_cons se_int sa_nil))) se_int) (se_call c28 rfl (sa_cons (se_v 0) (sa_cons se_int sa_nil))) (se_tup sa_nil)))
    (ss_cons (ss_ret (se_tup (sa_cons se_str (sa_cons (se_biT call_tuple_D B.m_tuple PyProof.Rows.boot_tuple (sa_cons (se_v 3) sa_nil)) (sa_cons (se_v 5) sa_nil)))))
    ss_nil)))))))

abbrev t__law_template : Stmt := top 32
def N__law_template : List Str := ["m", "names", "depth", "size", "here", "deeper", "items", "k", "inner", "name"]
theorem sc__law_template : FnScope N__law_template ["m", "names", "depth", "size"] (defScope t__law_template) := ⟨rfl, rfl, rfl, by decide +kernel, rfl, by decide +kernel, by decide +kernel⟩

theorem b__law_template {P : Program} {w : World} {K : Fr} {mg : Str → Option Value} {base : Heap} {f : Addr} {cdv : Value} {A : Around} {outer : List PySem.Env} {s : Shared} {H : Hp} {E : XK} {cf : CF} (B : Bu mg) (hu : (A.deeper (envOfC "_law_template" (defScope t__law_template) s.heap.objs.size f cdv)).units + 70 < cLine) (hgd : (A.deeper (envOfC "_law_template" (defScope t__law_template) s.heap.objs.size f cdv)).guards = some []) (c18 : Callee P w K mg base (A.deeper (envOfC "_law_template" (defScope t__law_template) s.heap.objs.size f cdv)) cf "_law_draw" 18 2) (c19 : Callee P w K mg base (A.deeper (envOfC "_law_template" (defScope t__law_template) s.heap.objs.size f cdv)) cf "_law_of" 19 2) (c20 : Callee P w K mg base (A.deeper (envOfC "_law_template" (defScope t__law_template) s.heap.objs.size f cdv)) cf "_law_w" 20 1) (c29 : Callee P w K mg base (A.deeper (envOfC "_law_template" (defScope t__law_template) s.heap.objs.size f cdv)) cf "_law_template" 29 4) :
    SSs (cxOf CX0 P w K mg base N__law_template "_law_template" (defScope t__law_template) f cdv A outer s H E).nox cf (defBody t__law_template) c__law_template :=
  have h64 : (A.deeper (envOfC "_law_template" (defScope t__law_template) s.heap.objs.size f cdv)).units + 64 < cLine := by omega
  have h1 : (A.deeper (envOfC "_law_template" (defScope t__law_template) s.heap.objs.size f cdv)).units + 1 < cLine := by omega
  have hc : (cxOf CX0 P w K mg base N__law_template "_law_template" (defScope t__law_template) f cdv A outer s H E).nox.calm = true := rfl
  have hN : (cxOf CX0 P w K mg base N__law_template "_law_template" (defScope t__law_template) f cdv A outer s H E).nox.N.Nodup := sc__law_template.nd
  (ss_cons (ss_set 4 hN (se_biB call_sorted_D B.m_sorted PyProof.Rows.boot_sorted (sa_cons (se_compK (own := [("name", 9)]) 1 hc hN (blkOk_by (by show blkC N__law_template (defScope t__law_template) _ _ = true; decide +kernel)) (by decide)  (tgOk_v 9) (fun _ _ _ _ _ => (pg_name (i := 9) hN rfl (by first | exact Or.inl rfl | exact Or.inr rfl))) (fun _ _ _ _ _ => (sp_one (st_eq h64 (se_ix h64 (se_v 1) (se_v 9)) (se_v 2)))) (fun _ _ _ _ _ => (se_v 9))) sa_nil)))
    (ss_cons (ss_set 5 hN (se_biB call_sorted_D B.m_sorted PyProof.Rows.boot_sorted (sa_cons (se_compK (own := [("name", 9)]) 1 hc hN (blkOk_by (by show blkC N__law_template (defScope t__law_template) _ _ = true; decide +kernel)) (by decide)  (tgOk_v 9) (fun _ _ _ _ _ => (pg_name (i := 9) hN rfl (by first | exact Or.inl rfl | exact Or.inr rfl))) (fun _ _ _ _ _ => (sp_one (st_gt (se_ix h64 (se_v 1) (se_v 9)) (se_v 2)))) (fun _ _ _ _ _ => (se_v 9))) sa_nil)))
    (ss_cons (ss_if (st_w (sw_or (st_lt (se_v 3) se_int) (sw_or1 (st_eq h64 (se_call c18 rfl (sa_cons (se_v 0) (sa_cons se_int sa_nil))) se_int))))
     (ss_cons (ss_ret (se_ite (st_w (sw_and (st_ne h64 (se_v 4) (se_lst sa_nil)) (sw_and1 (st_gt (se_call c18 rfl (sa_cons (se_v 0) (sa_cons se_int sa_nil))) se_int)))) (se_call c20 rfl (sa_cons (se_call c19 rfl (sa_cons (se_v 0) (sa_cons (se_v 4) sa_nil))) sa_nil)) (se_call c19 rfl (sa_cons (se_v 0) (sa_cons (se_lst (sa_cons se_int (sa_cons (se_tup sa_nil) (sa_cons (se_call c20 rfl (sa_cons se_str sa_nil)) (sa_cons (se_call c20 rfl (sa_cons se_str sa_nil)) sa_nil))))) sa_nil)))))
      ss_nil)
     ss_nil)
    (ss_cons (ss_if (st_eq h64 (se_call c18 rfl (sa_cons (se_v 0) (sa_cons se_int sa_nil))) se_int)
     (ss_cons (ss_ret (se_tup (sa_cons se_str (sa_cons (se_tup (sa_cons (se_call c20 rfl (sa_cons se_str sa_nil)) (sa_cons (se_tup (sa_cons se_str (sa_cons (se_tup (sa_cons (se_call c29 rfl (sa_cons (se_v 0) (sa_cons (se_v 1) (sa_cons (se_v 2) (sa_cons se_int sa_nil))))) (sa_cons (se_call c20 rfl (sa_cons se_str sa_nil)) sa_nil))) (sa_cons (se_tup sa_nil) sa_nil)))) sa_nil))) (sa_cons (se_tup sa_nil) sa_nil)))))
      ss_nil)
     ss_nil)
    (ss_cons (ss_set 6 hN (se_lstM sa_nil))
    (ss_cons (ss_for PassesOwn.never hc (si_range1 B.m_range (se_add se_int (se_call c18 rfl (sa_cons (se_v 0) (sa_cons se_int sa_nil))))) (tg_v 7 hN)
     (ss_cons (ss_if (st_w (sw_and (st_ne h64 (se_v 5) (se_lst sa_nil)) (sw_and1 (st_eq h64 (se_call c18 rfl (sa_cons (se_v 0) (sa_cons se_int sa_nil))) se_int))))
       (ss_cons (ss_set 8 hN (se_lst (sa_cons (se_call c29 rfl (sa_cons (se_v 0) (sa_cons (se_v 1) (sa_cons (se_add (se_v 2) se_int) (sa_cons (se_sub (se_v 3) se_int) sa_nil))))) (sa_cons (se_call c20 rfl (sa_cons (se_call c19 rfl (sa_cons (se_v 0) (sa_cons (se_v 5) sa_nil))) sa_nil)) sa_nil))))
        (ss_cons (ss_set 6 hN (se_catM (se_v 6) (se_lst (sa_cons (se_tup (sa_cons se_str (sa_cons (se_biT call_tuple_D B.m_tuple PyProof.Rows.boot_tuple (sa_cons (se_v 8) sa_nil)) (sa_cons (se_tup sa_nil) sa_nil)))) (sa_cons (se_call c20 rfl (sa_cons se_str sa_nil)) sa_nil)))))
        ss_nil))
       (ss_cons (ss_ex (se_append (se_v 6) (se_call c29 rfl (sa_cons (se_v 0) (sa_cons (se_v 1) (sa_cons (se_v 2) (sa_cons (se_sub (se_v 3) se_int) sa_nil)))))))
        ss_nil))
      ss_nil))
    (ss_cons (ss_ret (se_tup (sa_cons se_str (sa_cons (se_biT call_tuple_D B.m_tuple PyProof.Rows.boot_tuple (sa_cons (se_v 6) sa_nil)) (sa_cons (se_ite (st_eq h64 (se_call c18 rfl (sa_cons (se_v 0) (sa_cons se_int sa_nil))) se_int) (se_call c20 rfl (sa_cons se_str sa_nil)) (se_tup sa_nil)) sa_nil)))))
    ss_nil)))))))

abbrev t__law_bent : Stmt := top 33
def N__law_bent : List Str := ["m", "datum", "some", "items", "k", "way"]
theorem sc__law_bent : FnScope N__law_bent ["m", "datum", "some"] (defScope t__law_bent) := ⟨rfl, rfl, rfl, by decide +kernel, rfl, by decide +kernel, by decide +kernel⟩

theorem b__law_bent {P : Program} {w : World} {K : Fr} {mg : Str → Option Value} {base : Heap} {f : Addr} {cdv : Value} {A : Around} {outer : List PySem.Env} {s : Shared} {H : Hp} {E : XK} {cf : CF} (B : Bu mg) (hu : (A.deeper (envOfC "_law_bent" (defScope t__law_bent) s.heap.objs.size f cdv)).units + 70 < cLine) (hgd : (A.deeper (envOfC "_law_bent" (defScope t__law_bent) s.heap.objs.size f cdv)).guards = some []) (c18 : Callee P w K mg base (A.deeper (envOfC "_law_bent" (defScope t__law_bent) s.heap.objs.size f cdv)) cf "_law_draw" 18 2) (c19 : Callee P w K mg base (A.deeper (envOfC "_law_bent" (defScope t__law_bent) s.heap.objs.size f cdv)) cf "_law_of" 19 2) (c20 : Callee P w K mg base (A.deeper (envOfC "_law_bent" (defScope t__law_bent) s.heap.objs.size f cdv)) cf "_law_w" 20 1) (c21 : Callee P w K mg base (A.deeper (envOfC "_law_bent" (defScope t__law_bent) s.heap.objs.size f cdv)) cf "_law_is_list" 21 1) (c30 : Callee P w K mg base (A.deeper (envOfC "_law_bent" (defScope t__law_bent) s.heap.objs.size f cdv)) cf "_law_bent" 30 3) :
    SSs (cxOf CX0 P w K mg base N__law_bent "_law_bent" (defScope t__law_bent) f cdv A outer s H E).nox cf (defBody t__law_bent) c__law_bent :=
  have h64 : (A.deeper (envOfC "_law_bent" (defScope t__law_bent) s.heap.objs.size f cdv)).units + 64 < cLine := by omega
  have h1 : (A.deeper (envOfC "_law_bent" (defScope t__law_bent) s.heap.objs.size f cdv)).units + 1 < cLine := by omega
  have hc : (cxOf CX0 P w K mg base N__law_bent "_law_bent" (defScope t__law_bent) f cdv A outer s H E).nox.calm = true := rfl
  have hN : (cxOf CX0 P w K mg base N__law_bent "_law_bent" (defScope t__law_bent) f cdv A outer s H E).nox.N.Nodup := sc__law_bent.nd
  (ss_cons (ss_if (st_w (sw_or (st_not (st_tru (se_call c21 rfl (sa_cons (se_v 1) sa_nil)))) (sw_or1 (st_eq h64 (se_call c18 rfl (sa_cons (se_v 0) (sa_cons se_int sa_nil))) se_int))))
     (ss_cons (ss_ret (se_call c19 rfl (sa_cons (se_v 0) (sa_cons (se_v 2) sa_nil))))
      ss_nil)
     ss_nil)
    (ss_cons (ss_par3 3 4 5 hc hN (by decide) (by decide) (by decide) (sa_cons (se_ix h64 (se_v 1) se_int) (sa_cons (se_call c18 rfl (sa_cons (se_v 0) (sa_cons (se_biB call_len_D B.m_len PySem.boot_len (sa_cons (se_ix h64 (se_v 1) se_int) sa_nil)) sa_nil))) (sa_cons (se_call c18 rfl (sa_cons (se_v 0) (sa_cons se_int sa_nil))) sa_nil))))
    (ss_cons (ss_if (st_eq h64 (se_v 5) se_int)
     (ss_cons (ss_ret (se_tup (sa_cons se_str (sa_cons (se_v 3) (sa_cons (se_call c19 rfl (sa_cons (se_v 0) (sa_cons (se_lst (sa_cons (se_call c20 rfl (sa_cons se_str sa_nil)) (sa_cons (se_call c20 rfl (sa_cons se_str sa_nil)) (sa_cons se_int sa_nil)))) sa_nil))) sa_nil)))))
      ss_nil)
     ss_nil)
    (ss_cons (ss_if (st_w (sw_and (st_eq h64 (se_v 5) se_int) (sw_and1 (st_gt (se_biB call_len_D B.m_len PySem.boot_len (sa_cons (se_v 3) sa_nil)) se_int))))
     (ss_cons (ss_ret (se_tup (sa_cons se_str (sa_cons (se_add (se_sl (se_v 3) so_none (so_some (se_v 4))) (se_sl (se_v 3) (so_some (se_add (se_v 4) se_int)) so_none)) (sa_cons (se_ix h64 (se_v 1) se_int) sa_nil)))))
      ss_nil)
     ss_nil)
    (ss_cons (ss_if (st_lt (se_v 5) se_int)
     (ss_cons (ss_ret (se_tup (sa_cons se_str (sa_cons (se_add (se_add (se_sl (se_v 3) so_none (so_some (se_v 4))) (se_tup (sa_cons (se_ite (st_gt (se_v 5) se_int) (se_call c19 rfl (sa_cons (se_v 0) (sa_cons (se_v 2) sa_nil))) (se_ix h64 (se_v 3) (se_v 4))) sa_nil))) (se_sl (se_v 3) (so_some (se_v 4)) so_none)) (sa_cons (se_ix h64 (se_v 1) se_int) sa_nil)))))
      ss_nil)
     ss_nil)
    (ss_cons (ss_ret (se_tup (sa_cons se_str (sa_cons (se_add (se_add (se_sl (se_v 3) so_none (so_some (se_v 4))) (se_tup (sa_cons (se_call c30 rfl (sa_cons (se_v 0) (sa_cons (se_ix h64 (se_v 3) (se_v 4)) (sa_cons (se_v 2) sa_nil)))) sa_nil))) (se_sl (se_v 3) (so_some (se_add (se_v 4) se_int)) so_none)) (sa_cons (se_ix h64 (se_v 1) se_int) sa_nil)))))
    ss_nil))))))

abbrev t__law_turn_right : Stmt := top 34
def N__law_turn_right : List Str := ["m", "items", "pattern", "names", "template", "some", "turn", "fault", "wrong", "k", "name"]
theorem sc__law_turn_right : FnScope N__law_turn_right ["m"] (defScope t__law_turn_right) := ⟨rfl, rfl, rfl, by decide +kernel, rfl, by decide +kernel, by decide +kernel⟩

theorem b__law_turn_right {P : Program} {w : World} {K : Fr} {mg : Str → Option Value} {base : Heap} {f : Addr} {cdv : Value} {A : Around} {outer : List PySem.Env} {s : Shared} {H : Hp} {E : XK} {cf : CF} (B : Bu mg) (hu : (A.deeper (envOfC "_law_turn_right" (defScope t__law_turn_right) s.heap.objs.size f cdv)).units + 70 < cLine) (hgd : (A.deeper (envOfC "_law_turn_right" (defScope t__law_turn_right) s.heap.objs.size f cdv)).guards = some []) (c14 : Callee P w K mg base (A.deeper (envOfC "_law_turn_right" (defScope t__law_turn_right) s.heap.objs.size f cdv)) cf "rule_fault" 14 3) (c16 : Callee P w K mg base (A.deeper (envOfC "_law_turn_right" (defScope t__law_turn_right) s.heap.objs.size f cdv)) cf "pattern_names" 16 2) (c18 : Callee P w K mg base (A.deeper (envOfC "_law_turn_right" (defScope t__law_turn_right) s.heap.objs.size f cdv)) cf "_law_draw" 18 2) (c20 : Callee P w K mg base (A.deeper (envOfC "_law_turn_right" (defScope t__law_turn_right) s.heap.objs.size f cdv)) cf "_law_w" 20 1) (c21 : Callee P w K mg base (A.deeper (envOfC "_law_turn_right" (defScope t__law_turn_right) s.heap.objs.size f cdv)) cf "_law_is_list" 21 1) (c26 : Callee P w K mg base (A.deeper (envOfC "_law_turn_right" (defScope t__law_turn_right) s.heap.objs.size f cdv)) cf "_law_p_items" 26 6) (c27 : Callee P w K mg base (A.deeper (envOfC "_law_turn_right" (defScope t__law_turn_right) s.heap.objs.size f cdv)) cf "_law_t_fault" 27 5) (c28 : Callee P w K mg base (A.deeper (envOfC "_law_turn_right" (defScope t__law_turn_right) s.heap.objs.size f cdv)) cf "_law_pattern" 28 2) (c29 : Callee P w K mg base (A.deeper (envOfC "_law_turn_right" (defScope t__law_turn_right) s.heap.objs.size f cdv)) cf "_law_template" 29 4) (c30 : Callee P w K mg base (A.deeper (envOfC "_law_turn_right" (defScope t__law_turn_right) s.heap.objs.size f cdv)) cf "_law_bent" 30 3) :
    SSs (cxOf CX0 P w K mg base N__law_turn_right "_law_turn_right" (defScope t__law_turn_right) f cdv A outer s H E).nox cf (defBody t__law_turn_right) c__law_turn_right :=
  have h64 : (A.deeper (envOfC "_law_turn_right" (defScope t__law_turn_right) s.heap.objs.size f cdv)).units + 64 < cLine := by omega
  have h1 : (A.deeper (envOfC "_law_turn_right" (defScope t__law_turn_right) s.heap.objs.size f cdv)).units + 1 < cLine := by omega
  have hc : (cxOf CX0 P w K mg base N__law_turn_right "_law_turn_right" (defScope t__law_turn_right) f cdv A outer s H E).nox.calm = true := rfl
  have hN : (cxOf CX0 P w K mg base N__law_turn_right "_law_turn_right" (defScope t__law_turn_right) f cdv A outer s H E).nox.N.Nodup := sc__law_turn_right.nd
  (ss_cons (ss_setix h1 se_int (se_v 0) se_str)
    (ss_cons (ss_set 1 hN (se_add (se_lst (sa_cons (se_call c20 rfl (sa_cons se_str sa_nil)) sa_nil)) (se_comp (own := [("k", 9)]) hc hN (si_range1 B.m_range (se_call c18 rfl (sa_cons (se_v 0) (sa_cons se_int sa_nil)))) (blkOk_by (by show blkC N__law_turn_right (defScope t__law_turn_right) _ _ = true; decide +kernel)) (by decide) rfl (tgOk_v 9) (fun _ _ _ _ _ => (pg_name (i := 9) hN rfl (by first | exact Or.inl rfl | exact Or.inr rfl))) (fun _ _ _ _ _ => sp_nil) (fun _ _ _ _ _ => (se_call c28 rfl (sa_cons (se_v 0) (sa_cons se_int sa_nil)))))))
    (ss_cons (ss_parT (tg_tup (is := [2, 3]) hc (pgs_cons (pg_name (i := 2) hN rfl (by first | exact Or.inl rfl | exact Or.inr rfl)) (pgs_cons (pg_name (i := 3) hN rfl (by first | exact Or.inl rfl | exact Or.inr rfl)) pgs_nil))) (sa_cons (se_tup (sa_cons se_str (sa_cons (se_biT call_tuple_D B.m_tuple PyProof.Rows.boot_tuple (sa_cons (se_v 1) sa_nil)) (sa_cons (se_tup sa_nil) sa_nil)))) (sa_cons se_dctM0 sa_nil)))
    (ss_cons (ss_ex (se_call c26 rfl (sa_cons (se_v 2) (sa_cons se_int (sa_cons (se_tup sa_nil) (sa_cons (se_tup (sa_cons se_str sa_nil)) (sa_cons (se_v 3) (sa_cons se_int sa_nil))))))))
    (ss_cons (ss_set 4 hN (se_call c29 rfl (sa_cons (se_v 0) (sa_cons (se_v 3) (sa_cons se_int (sa_cons se_int sa_nil))))))
    (ss_cons (ss_set 5 hN (se_lst (sa_cons (se_call c20 rfl (sa_cons se_str sa_nil)) (sa_cons (se_call c20 rfl (sa_cons se_str sa_nil)) (sa_cons (se_call c20 rfl (sa_cons se_str sa_nil)) (sa_cons (se_call c20 rfl (sa_cons se_str sa_nil)) (sa_cons (se_call c20 rfl (sa_cons se_str sa_nil)) (sa_cons (se_call c20 rfl (sa_cons se_str sa_nil)) (sa_cons (se_call c20 rfl (sa_cons se_str sa_nil)) (sa_cons se_int (sa_cons (se_tup sa_nil) sa_nil)))))))))))
    (ss_cons (ss_for PassesOwn.never hc (si_range1 B.m_range se_int) (tg_v 6 hN)
     (ss_cons (ss_parT (tg_tup (is := [3, 7]) hc (pgs_cons (pg_name (i := 3) hN rfl (by first | exact Or.inl rfl | exact Or.inr rfl)) (pgs_cons (pg_name (i := 7) hN rfl (by first | exact Or.inl rfl | exact Or.inr rfl)) pgs_nil))) (sa_cons se_dctM0 (sa_cons (se_tup (sa_cons se_str (sa_cons (se_tup sa_nil) sa_nil))) sa_nil)))
      (ss_cons (ss_if (st_tru (se_call c21 rfl (sa_cons (se_v 2) sa_nil)))
       (ss_cons (ss_set 8 hN (se_call c26 rfl (sa_cons (se_v 2) (sa_cons se_int (sa_cons (se_tup sa_nil) (sa_cons (se_tup (sa_cons se_str sa_nil)) (sa_cons (se_v 3) (sa_cons se_int sa_nil))))))))
        (ss_cons (ss_set 7 hN (se_ite (st_isN (se_v 8)) se_non (se_tup (sa_cons se_str (sa_cons (se_v 8) sa_nil)))))
        ss_nil))
       ss_nil)
      (ss_cons (ss_if (st_isN (se_v 7))
       (ss_cons (ss_if (st_reprNe hgd hu B.m_repr (se_call c16 rfl (sa_cons (se_tup (sa_cons se_str sa_nil)) (sa_cons (se_v 2) sa_nil))) (se_biT call_tuple_D B.m_tuple PyProof.Rows.boot_tuple (sa_cons (se_comp (own := [("name", 10)]) hc hN (si_seq (se_biT (call_list_D hc) B.m_list PyProof.Rows.boot_list (sa_cons (se_v 3) sa_nil))) (blkOk_by (by show blkC N__law_turn_right (defScope t__law_turn_right) _ _ = true; decide +kernel)) (by decide) rfl (tgOk_v 10) (fun _ _ _ _ _ => (pg_name (i := 10) hN rfl (by first | exact Or.inl rfl | exact Or.inr rfl))) (fun _ _ _ _ _ => sp_nil) (fun _ _ _ _ _ => (se_tup (sa_cons (se_v 10) (sa_cons (se_ix h64 (se_v 3) (se_v 10)) sa_nil))))) sa_nil)))
         (ss_cons (ss_ret se_bl)
          ss_nil)
         ss_nil)
        (ss_cons (ss_set 8 hN (se_call c27 rfl (sa_cons (se_v 4) (sa_cons (se_tup sa_nil) (sa_cons (se_v 3) (sa_cons se_int (sa_cons se_bl sa_nil)))))))
        (ss_cons (ss_set 7 hN (se_ite (st_isN (se_v 8)) se_non (se_tup (sa_cons se_str (sa_cons (se_v 8) sa_nil)))))
        ss_nil)))
       ss_nil)
      (ss_cons (ss_if (st_reprNe hgd hu B.m_repr (se_call c14 rfl (sa_cons (se_tup (sa_cons se_str sa_nil)) (sa_cons (se_v 2) (sa_cons (se_v 4) sa_nil)))) (se_v 7))
       (ss_cons (ss_ret se_bl)
        ss_nil)
       ss_nil)
      (ss_cons (ss_if (st_eq h64 (se_call c18 rfl (sa_cons (se_v 0) (sa_cons se_int sa_nil))) se_int)
       (ss_cons (ss_set 2 hN (se_call c30 rfl (sa_cons (se_v 0) (sa_cons (se_v 2) (sa_cons (se_v 5) sa_nil)))))
        ss_nil)
       (ss_cons (ss_set 4 hN (se_call c30 rfl (sa_cons (se_v 0) (sa_cons (se_v 4) (sa_cons (se_v 5) sa_nil)))))
        ss_nil))
      ss_nil))))))
    (ss_cons (ss_ret se_bl)
    ss_nil))))))))

abbrev t__law_hand_right : Stmt := top 35
def N__law_hand_right : List Str := ["a", "mark", "under", "plain", "row", "told"]
theorem sc__law_hand_right : FnScope N__law_hand_right [] (defScope t__law_hand_right) := ⟨rfl, rfl, rfl, by decide +kernel, rfl, by decide +kernel, by decide +kernel⟩

theorem b__law_hand_right {P : Program} {w : World} {K : Fr} {mg : Str → Option Value} {base : Heap} {f : Addr} {cdv : Value} {A : Around} {outer : List PySem.Env} {s : Shared} {H : Hp} {E : XK} {cf : CF} (B : Bu mg) (hu : (A.deeper (envOfC "_law_hand_right" (defScope t__law_hand_right) s.heap.objs.size f cdv)).units + 70 < cLine) (hgd : (A.deeper (envOfC "_law_hand_right" (defScope t__law_hand_right) s.heap.objs.size f cdv)).guards = some []) (c14 : Callee P w K mg base (A.deeper (envOfC "_law_hand_right" (defScope t__law_hand_right) s.heap.objs.size f cdv)) cf "rule_fault" 14 3) (c20 : Callee P w K mg base (A.deeper (envOfC "_law_hand_right" (defScope t__law_hand_right) s.heap.objs.size f cdv)) cf "_law_w" 20 1) :
    SSs (cxOf CX0 P w K mg base N__law_hand_right "_law_hand_right" (defScope t__law_hand_right) f cdv A outer s H E).nox cf (defBody t__law_hand_right) c__law_hand_right :=
  have h64 : (A.deeper (envOfC "_law_hand_right" (defScope t__law_hand_right) s.heap.objs.size f cdv)).units + 64 < cLine := by omega
  have h1 : (A.deeper (envOfC "_law_hand_right" (defScope t__law_hand_right) s.heap.objs.size f cdv)).units + 1 < cLine := by omega
  have hc : (cxOf CX0 P w K mg base N__law_hand_right "_law_hand_right" (defScope t__law_hand_right) f cdv A outer s H E).nox.calm = true := rfl
  have hN : (cxOf CX0 P w K mg base N__law_hand_right "_law_hand_right" (defScope t__law_hand_right) f cdv A outer s H E).nox.N.Nodup := sc__law_hand_right.nd
  (ss_cons (ss_par3 0 1 2 hc hN (by decide) (by decide) (by decide) (sa_cons (se_call c20 rfl (sa_cons se_str sa_nil)) (sa_cons (se_call c20 rfl (sa_cons se_str sa_nil)) (sa_cons (se_call c20 rfl (sa_cons se_str sa_nil)) sa_nil))))
    (ss_cons (ss_par2 3 4 hc hN (by decide) (sa_cons (se_tup (sa_cons se_str (sa_cons (se_tup (sa_cons (se_v 2) (sa_cons (se_v 0) sa_nil))) (sa_cons (se_tup sa_nil) sa_nil)))) (sa_cons (se_tup (sa_cons se_str (sa_cons (se_tup (sa_cons (se_v 2) (sa_cons (se_v 0) (sa_cons (se_v 1) sa_nil)))) (sa_cons (se_tup sa_nil) sa_nil)))) sa_nil)))
    (ss_cons (ss_set 5 hN (se_lstM (sa_cons (se_call c14 rfl (sa_cons (se_tup sa_nil) (sa_cons (se_v 3) (sa_cons (se_tup (sa_cons se_str (sa_cons (se_tup (sa_cons (se_tup (sa_cons se_str (sa_cons (se_tup (sa_cons (se_v 1) (sa_cons (se_tup (sa_cons se_str (sa_cons (se_tup (sa_cons (se_v 0) (sa_cons (se_v 1) sa_nil))) (sa_cons (se_tup sa_nil) sa_nil)))) sa_nil))) (sa_cons (se_tup sa_nil) sa_nil)))) (sa_cons (se_v 0) sa_nil))) (sa_cons (se_tup sa_nil) sa_nil)))) sa_nil)))) sa_nil)))
    (ss_cons (ss_ex (se_append (se_v 5) (se_call c14 rfl (sa_cons (se_tup sa_nil) (sa_cons (se_v 4) (sa_cons (se_tup (sa_cons se_str (sa_cons (se_tup (sa_cons (se_tup (sa_cons se_str (sa_cons (se_tup (sa_cons se_int (sa_cons se_int sa_nil))) (sa_cons (se_tup sa_nil) sa_nil)))) (sa_cons (se_v 1) sa_nil))) (sa_cons (se_tup sa_nil) sa_nil)))) sa_nil))))))
    (ss_cons (ss_ex (se_append (se_v 5) (se_call c14 rfl (sa_cons (se_tup sa_nil) (sa_cons (se_v 3) (sa_cons (se_tup (sa_cons se_str (sa_cons (se_tup (sa_cons (se_tup (sa_cons se_str (sa_cons (se_tup (sa_cons (se_v 0) (sa_cons se_int sa_nil))) (sa_cons (se_tup sa_nil) sa_nil)))) (sa_cons (se_v 1) sa_nil))) (sa_cons (se_tup sa_nil) sa_nil)))) sa_nil))))))
    (ss_cons (ss_set 5 hN (se_add (se_v 5) (se_lst (sa_cons (se_call c14 rfl (sa_cons (se_tup sa_nil) (sa_cons (se_tup (sa_cons se_str (sa_cons (se_tup (sa_cons (se_v 2) (sa_cons (se_v 1) sa_nil))) (sa_cons (se_tup sa_nil) sa_nil)))) (sa_cons se_int sa_nil)))) (sa_cons (se_call c14 rfl (sa_cons (se_tup sa_nil) (sa_cons se_int (sa_cons se_int sa_nil)))) (sa_cons (se_call c14 rfl (sa_cons (se_tup sa_nil) (sa_cons (se_v 4) (sa_cons (se_v 0) sa_nil)))) sa_nil))))))
    (ss_cons (ss_ret (se_reprEq hgd hu B.m_repr (se_v 5) (se_lst (sa_cons se_non (sa_cons (se_tup (sa_cons se_str (sa_cons (se_tup (sa_cons se_int sa_nil)) sa_nil))) (sa_cons (se_tup (sa_cons se_str (sa_cons (se_tup (sa_cons se_int (sa_cons se_int sa_nil))) sa_nil))) (sa_cons (se_tup (sa_cons se_str (sa_cons (se_tup (sa_cons se_int sa_nil)) sa_nil))) (sa_cons (se_tup (sa_cons se_str (sa_cons (se_tup sa_nil) sa_nil))) (sa_cons (se_tup (sa_cons se_str (sa_cons (se_tup sa_nil) sa_nil))) sa_nil)))))))))
    ss_nil)))))))

abbrev t_law : Stmt := top 36
def N_law : List Str := ["script", "k"]
theorem sc_law : FnScope N_law ["script"] (defScope t_law) := ⟨rfl, rfl, rfl, by decide +kernel, rfl, by decide +kernel, by decide +kernel⟩

theorem b_law {P : Program} {w : World} {K : Fr} {mg : Str → Option Value} {base : Heap} {f : Addr} {cdv : Value} {A : Around} {outer : List PySem.Env} {s : Shared} {H : Hp} {E : XK} {cf : CF} (B : Bu mg) (hu : (A.deeper (envOfC "law" (defScope t_law) s.heap.objs.size f cdv)).units + 70 < cLine) (hgd : (A.deeper (envOfC "law" (defScope t_law) s.heap.objs.size f cdv)).guards = some []) (c17 : Callee P w K mg base (A.deeper (envOfC "law" (defScope t_law) s.heap.objs.size f cdv)) cf "_law_begun" 17 2) (c31 : Callee P w K mg base (A.deeper (envOfC "law" (defScope t_law) s.heap.objs.size f cdv)) cf "_law_turn_right" 31 1) (c32 : Callee P w K mg base (A.deeper (envOfC "law" (defScope t_law) s.heap.objs.size f cdv)) cf "_law_hand_right" 32 0) :
    SSs (cxOf CX0 P w K mg base N_law "law" (defScope t_law) f cdv A outer s H E).nox cf (defBody t_law) c_law :=
  have h64 : (A.deeper (envOfC "law" (defScope t_law) s.heap.objs.size f cdv)).units + 64 < cLine := by omega
  have h1 : (A.deeper (envOfC "law" (defScope t_law) s.heap.objs.size f cdv)).units + 1 < cLine := by omega
  have hc : (cxOf CX0 P w K mg base N_law "law" (defScope t_law) f cdv A outer s H E).nox.calm = true := rfl
  have hN : (cxOf CX0 P w K mg base N_law "law" (defScope t_law) f cdv A outer s H E).nox.N.Nodup := sc_law.nd
  (ss_cons (ss_if (st_not (st_tru (se_call0 c32)))
     (ss_cons (ss_ret se_bl)
      ss_nil)
     ss_nil)
    (ss_cons (ss_for PassesOwn.never hc (si_range1 B.m_range (se_add se_int (se_biB (call_min_D hc) B.m_min PyProof.Rows.boot_min (sa_cons (se_biB call_len_D B.m_len PySem.boot_len (sa_cons (se_v 0) sa_nil)) (sa_cons se_int sa_nil))))) (tg_v 1 hN)
     (ss_cons (ss_if (st_not (st_tru (se_call c31 rfl (sa_cons (se_call c17 rfl (sa_cons (se_v 0) (sa_cons (se_v 1) sa_nil))) sa_nil))))
       (ss_cons (ss_ret se_bl)
        ss_nil)
       ss_nil)
      ss_nil))
    (ss_cons (ss_ret se_bl)
    ss_nil)))
structure Ds (K : Fr) (mg : Str → Option Value) : Prop where
  d0 : Df K mg "is_list" t_is_list ["value"]
  d1 : Df K mg "node_of" t_node_of ["datum", "path"]
  d2 : Df K mg "path_of" t_path_of ["node"]
  d3 : Df K mg "letters" t_letters ["aliases", "key"]
  d4 : Df K mg "words_in" t_words_in ["node"]
  d5 : Df K mg "is_mark" t_is_mark ["rule", "node"]
  d6 : Df K mg "is_plain_tail" t_is_plain_tail ["node"]
  d7 : Df K mg "pattern_fault" t_pattern_fault ["rule", "node", "depth"]
  d8 : Df K mg "row_fault" t_row_fault ["rule", "items", "tail", "depth"]
  d9 : Df K mg "whole_fault" t_whole_fault ["rule", "pattern"]
  d10 : Df K mg "is_as_it_is" t_is_as_it_is ["rule", "node"]
  d11 : Df K mg "has_name" t_has_name ["rule", "node"]
  d12 : Df K mg "template_fault" t_template_fault ["rule", "node", "depth", "is_bare"]
  d13 : Df K mg "plain_rule" t_plain_rule ["literals"]
  d14 : Df K mg "rule_fault" t_rule_fault ["literals", "pattern", "template"]
  d15 : Df K mg "looked_at" t_looked_at ["literals", "pattern"]
  d16 : Df K mg "pattern_names" t_pattern_names ["literals", "pattern"]
  d17 : Df K mg "_law_begun" t__law_begun ["script", "k"]
  d18 : Df K mg "_law_draw" t__law_draw ["m", "below"]
  d19 : Df K mg "_law_of" t__law_of ["m", "some"]
  d20 : Df K mg "_law_w" t__law_w ["word"]
  d21 : Df K mg "_law_is_list" t__law_is_list ["datum"]
  d22 : Df K mg "_law_is_word" t__law_is_word ["datum"]
  d23 : Df K mg "_law_is_mark" t__law_is_mark ["datum"]
  d24 : Df K mg "_law_words_in" t__law_words_in ["datum"]
  d25 : Df K mg "_law_p_fault" t__law_p_fault ["datum", "path", "literals", "names", "depth"]
  d26 : Df K mg "_law_p_items" t__law_p_items ["datum", "begin", "path", "literals", "names", "depth"]
  d27 : Df K mg "_law_t_fault" t__law_t_fault ["datum", "path", "names", "depth", "is_bare"]
  d28 : Df K mg "_law_pattern" t__law_pattern ["m", "size"]
  d29 : Df K mg "_law_template" t__law_template ["m", "names", "depth", "size"]
  d30 : Df K mg "_law_bent" t__law_bent ["m", "datum", "some"]
  d31 : Df K mg "_law_turn_right" t__law_turn_right ["m"]
  d32 : Df K mg "_law_hand_right" t__law_hand_right []
  d33 : Df K mg "law" t_law ["script"]
structure Cs (P : Program) (w : World) (K : Fr) (mg : Str → Option Value) (base : Heap) (n : Nat) : Prop where
  o0 : OkN P w K mg base fns n 0 "is_list" t_is_list ["value"]
  o1 : OkN P w K mg base fns n 1 "node_of" t_node_of ["datum", "path"]
  o2 : OkN P w K mg base fns n 2 "path_of" t_path_of ["node"]
  o3 : OkN P w K mg base fns n 3 "letters" t_letters ["aliases", "key"]
  o4 : OkN P w K mg base fns n 4 "words_in" t_words_in ["node"]
  o5 : OkN P w K mg base fns n 5 "is_mark" t_is_mark ["rule", "node"]
  o6 : OkN P w K mg base fns n 6 "is_plain_tail" t_is_plain_tail ["node"]
  o7 : OkN P w K mg base fns n 7 "pattern_fault" t_pattern_fault ["rule", "node", "depth"]
  o8 : OkN P w K mg base fns n 8 "row_fault" t_row_fault ["rule", "items", "tail", "depth"]
  o9 : OkN P w K mg base fns n 9 "whole_fault" t_whole_fault ["rule", "pattern"]
  o10 : OkN P w K mg base fns n 10 "is_as_it_is" t_is_as_it_is ["rule", "node"]
  o11 : OkN P w K mg base fns n 11 "has_name" t_has_name ["rule", "node"]
  o12 : OkN P w K mg base fns n 12 "template_fault" t_template_fault ["rule", "node", "depth", "is_bare"]
  o13 : OkN P w K mg base fns n 13 "plain_rule" t_plain_rule ["literals"]
  o14 : OkN P w K mg base fns n 14 "rule_fault" t_rule_fault ["literals", "pattern", "template"]
  o15 : OkN P w K mg base fns n 15 "looked_at" t_looked_at ["literals", "pattern"]
  o16 : OkN P w K mg base fns n 16 "pattern_names" t_pattern_names ["literals", "pattern"]
  o17 : OkN P w K mg base fns n 17 "_law_begun" t__law_begun ["script", "k"]
  o18 : OkN P w K mg base fns n 18 "_law_draw" t__law_draw ["m", "below"]
  o19 : OkN P w K mg base fns n 19 "_law_of" t__law_of ["m", "some"]
  o20 : OkN P w K mg base fns n 20 "_law_w" t__law_w ["word"]
  o21 : OkN P w K mg base fns n 21 "_law_is_list" t__law_is_list ["datum"]
  o22 : OkN P w K mg base fns n 22 "_law_is_word" t__law_is_word ["datum"]
  o23 : OkN P w K mg base fns n 23 "_law_is_mark" t__law_is_mark ["datum"]
  o24 : OkN P w K mg base fns n 24 "_law_words_in" t__law_words_in ["datum"]
  o25 : OkN P w K mg base fns n 25 "_law_p_fault" t__law_p_fault ["datum", "path", "literals", "names", "depth"]
  o26 : OkN P w K mg base fns n 26 "_law_p_items" t__law_p_items ["datum", "begin", "path", "literals", "names", "depth"]
  o27 : OkN P w K mg base fns n 27 "_law_t_fault" t__law_t_fault ["datum", "path", "names", "depth", "is_bare"]
  o28 : OkN P w K mg base fns n 28 "_law_pattern" t__law_pattern ["m", "size"]
  o29 : OkN P w K mg base fns n 29 "_law_template" t__law_template ["m", "names", "depth", "size"]
  o30 : OkN P w K mg base fns n 30 "_law_bent" t__law_bent ["m", "datum", "some"]
  o31 : OkN P w K mg base fns n 31 "_law_turn_right" t__law_turn_right ["m"]
  o32 : OkN P w K mg base fns n 32 "_law_hand_right" t__law_hand_right []
  o33 : OkN P w K mg base fns n 33 "law" t_law ["script"]
theorem cs_all {P : Program} {w : World} {K : Fr} {mg : Str → Option Value} {base : Heap} (B : Bu mg) (D : Ds K mg) : ∀ n, Cs P w K mg base n
  | 0 => ⟨OkN.zero D.d0, OkN.zero D.d1, OkN.zero D.d2, OkN.zero D.d3, OkN.zero D.d4, OkN.zero D.d5, OkN.zero D.d6, OkN.zero D.d7, OkN.zero D.d8, OkN.zero D.d9, OkN.zero D.d10, OkN.zero D.d11, OkN.zero D.d12, OkN.zero D.d13, OkN.zero D.d14, OkN.zero D.d15, OkN.zero D.d16, OkN.zero D.d17, OkN.zero D.d18, OkN.zero D.d19, OkN.zero D.d20, OkN.zero D.d21, OkN.zero D.d22, OkN.zero D.d23, OkN.zero D.d24, OkN.zero D.d25, OkN.zero D.d26, OkN.zero D.d27, OkN.zero D.d28, OkN.zero D.d29, OkN.zero D.d30, OkN.zero D.d31, OkN.zero D.d32, OkN.zero D.d33⟩
  | n + 1 => by
    have C := cs_all (P := P) (w := w) (base := base) B D n
    constructor
    · exact OkN.succ (N := N_is_list) D.d0 sc_is_list rfl fun f cdv A outer s H E hr hg => b_is_list B (room_hu hr) hg
    · exact OkN.succ (N := N_node_of) D.d1 sc_node_of rfl fun f cdv A outer s H E hr hg => b_node_of B (room_hu hr) hg (C.o0.callee hr hg) (C.o1.callee hr hg)
    · exact OkN.succ (N := N_path_of) D.d2 sc_path_of rfl fun f cdv A outer s H E hr hg => b_path_of B (room_hu hr) hg
    · exact OkN.succ (N := N_letters) D.d3 sc_letters rfl fun f cdv A outer s H E hr hg => b_letters B (room_hu hr) hg
    · exact OkN.succ (N := N_words_in) D.d4 sc_words_in rfl fun f cdv A outer s H E hr hg => b_words_in B (room_hu hr) hg
    · exact OkN.succ (N := N_is_mark) D.d5 sc_is_mark rfl fun f cdv A outer s H E hr hg => b_is_mark B (room_hu hr) hg (C.o3.callee hr hg)
    · exact OkN.succ (N := N_is_plain_tail) D.d6 sc_is_plain_tail rfl fun f cdv A outer s H E hr hg => b_is_plain_tail B (room_hu hr) hg
    · exact OkN.succ (N := N_pattern_fault) D.d7 sc_pattern_fault rfl fun f cdv A outer s H E hr hg => b_pattern_fault B (room_hu hr) hg (C.o3.callee hr hg) (C.o8.callee hr hg)
    · exact OkN.succ (N := N_row_fault) D.d8 sc_row_fault rfl fun f cdv A outer s H E hr hg => b_row_fault B (room_hu hr) hg (C.o5.callee hr hg) (C.o7.callee hr hg)
    · exact OkN.succ (N := N_whole_fault) D.d9 sc_whole_fault rfl fun f cdv A outer s H E hr hg => b_whole_fault B (room_hu hr) hg (C.o2.callee hr hg) (C.o8.callee hr hg)
    · exact OkN.succ (N := N_is_as_it_is) D.d10 sc_is_as_it_is rfl fun f cdv A outer s H E hr hg => b_is_as_it_is B (room_hu hr) hg (C.o5.callee hr hg) (C.o6.callee hr hg)
    · exact OkN.succ (N := N_has_name) D.d11 sc_has_name rfl fun f cdv A outer s H E hr hg => b_has_name B (room_hu hr) hg (C.o4.callee hr hg)
    · exact OkN.succ (N := N_template_fault) D.d12 sc_template_fault rfl fun f cdv A outer s H E hr hg => b_template_fault B (room_hu hr) hg (C.o2.callee hr hg) (C.o5.callee hr hg) (C.o10.callee hr hg) (C.o11.callee hr hg) (C.o12.callee hr hg)
    · exact OkN.succ (N := N_plain_rule) D.d13 sc_plain_rule rfl fun f cdv A outer s H E hr hg => b_plain_rule B (room_hu hr) hg
    · exact OkN.succ (N := N_rule_fault) D.d14 sc_rule_fault rfl fun f cdv A outer s H E hr hg => b_rule_fault B (room_hu hr) hg (C.o1.callee hr hg) (C.o9.callee hr hg) (C.o12.callee hr hg) (C.o13.callee hr hg)
    · exact OkN.succ (N := N_looked_at) D.d15 sc_looked_at rfl fun f cdv A outer s H E hr hg => b_looked_at B (room_hu hr) hg (C.o1.callee hr hg) (C.o9.callee hr hg) (C.o13.callee hr hg)
    · exact OkN.succ (N := N_pattern_names) D.d16 sc_pattern_names rfl fun f cdv A outer s H E hr hg => b_pattern_names B (room_hu hr) hg (C.o15.callee hr hg)
    · exact OkN.succ (N := N__law_begun) D.d17 sc__law_begun rfl fun f cdv A outer s H E hr hg => b__law_begun B (room_hu hr) hg
    · exact OkN.succ (N := N__law_draw) D.d18 sc__law_draw rfl fun f cdv A outer s H E hr hg => b__law_draw B (room_hu hr) hg
    · exact OkN.succ (N := N__law_of) D.d19 sc__law_of rfl fun f cdv A outer s H E hr hg => b__law_of B (room_hu hr) hg (C.o18.callee hr hg)
    · exact OkN.succ (N := N__law_w) D.d20 sc__law_w rfl fun f cdv A outer s H E hr hg => b__law_w B (room_hu hr) hg
    · exact OkN.succ (N := N__law_is_list) D.d21 sc__law_is_list rfl fun f cdv A outer s H E hr hg => b__law_is_list B (room_hu hr) hg
    · exact OkN.succ (N := N__law_is_word) D.d22 sc__law_is_word rfl fun f cdv A outer s H E hr hg => b__law_is_word B (room_hu hr) hg
    · exact OkN.succ (N := N__law_is_mark) D.d23 sc__law_is_mark rfl fun f cdv A outer s H E hr hg => b__law_is_mark B (room_hu hr) hg
    · exact OkN.succ (N := N__law_words_in) D.d24 sc__law_words_in rfl fun f cdv A outer s H E hr hg => b__law_words_in B (room_hu hr) hg (C.o21.callee hr hg) (C.o22.callee hr hg) (C.o24.callee hr hg)
    · exact OkN.succ (N := N__law_p_fault) D.d25 sc__law_p_fault rfl fun f cdv A outer s H E hr hg => b__law_p_fault B (room_hu hr) hg (C.o21.callee hr hg) (C.o22.callee hr hg) (C.o26.callee hr hg)
    · exact OkN.succ (N := N__law_p_items) D.d26 sc__law_p_items rfl fun f cdv A outer s H E hr hg => b__law_p_items B (room_hu hr) hg (C.o23.callee hr hg) (C.o25.callee hr hg)
    · exact OkN.succ (N := N__law_t_fault) D.d27 sc__law_t_fault rfl fun f cdv A outer s H E hr hg => b__law_t_fault B (room_hu hr) hg (C.o21.callee hr hg) (C.o22.callee hr hg) (C.o23.callee hr hg) (C.o24.callee hr hg) (C.o27.callee hr hg)
    · exact OkN.succ (N := N__law_pattern) D.d28 sc__law_pattern rfl fun f cdv A outer s H E hr hg => b__law_pattern B (room_hu hr) hg (C.o18.callee hr hg) (C.o19.callee hr hg) (C.o20.callee hr hg) (C.o28.callee hr hg)
    · exact OkN.succ (N := N__law_template) D.d29 sc__law_template rfl fun f cdv A outer s H E hr hg => b__law_template B (room_hu hr) hg (C.o18.callee hr hg) (C.o19.callee hr hg) (C.o20.callee hr hg) (C.o29.callee hr hg)
    · exact OkN.succ (N := N__law_bent) D.d30 sc__law_bent rfl fun f cdv A outer s H E hr hg => b__law_bent B (room_hu hr) hg (C.o18.callee hr hg) (C.o19.callee hr hg) (C.o20.callee hr hg) (C.o21.callee hr hg) (C.o30.callee hr hg)
    · exact OkN.succ (N := N__law_turn_right) D.d31 sc__law_turn_right rfl fun f cdv A outer s H E hr hg => b__law_turn_right B (room_hu hr) hg (C.o14.callee hr hg) (C.o16.callee hr hg) (C.o18.callee hr hg) (C.o20.callee hr hg) (C.o21.callee hr hg) (C.o26.callee hr hg) (C.o27.callee hr hg) (C.o28.callee hr hg) (C.o29.callee hr hg) (C.o30.callee hr hg)
    · exact OkN.succ (N := N__law_hand_right) D.d32 sc__law_hand_right rfl fun f cdv A outer s H E hr hg => b__law_hand_right B (room_hu hr) hg (C.o14.callee hr hg) (C.o20.callee hr hg)
    · exact OkN.succ (N := N_law) D.d33 sc_law rfl fun f cdv A outer s H E hr hg => b_law B (room_hu hr) hg (C.o17.callee hr hg) (C.o31.callee hr hg) (C.o32.callee hr hg)
end K96
set_option autoImplicit false
set_option linter.all false
namespace MP
/-! ### the evaluator's equations, but for loops and comprehensions -/
section
variable {cf : CF} {r : Env} {m : Mem}
@[simp] theorem ev_v (i : Nat) : ev cf (.v i) r m = match r[i]? with | some (some d) => .ok d m | _ => .stop := rfl
@[simp] theorem ev_k (d : D) : ev cf (.k d) r m = .ok d m := rfl
@[simp] theorem ev_tup (l : List Ex) : ev cf (.tup l) r m = match evs cf l r m with | .ok ds m1 => if okLen ds then .ok (.tup ds) m1 else .stop | .stop => .stop := rfl
@[simp] theorem ev_lst (l : List Ex) : ev cf (.lst false l) r m = match evs cf l r m with | .ok ds m1 => if okLen ds then .ok (.lst ds) m1 else .stop | .stop => .stop := rfl
@[simp] theorem ev_lstM (l : List Ex) : ev cf (.lst true l) r m = match evs cf l r m with | .ok ds m1 => if okLen ds then .ok (.obj m1.length) (m1 ++ [.lst ds]) else .stop | .stop => .stop := rfl
@[simp] theorem ev_ix (a i : Ex) : ev cf (.ix a i) r m = match ev cf a r m with | .ok x m1 => (match ev cf i r m1 with | .ok y m2 => ixD x y m2 | .stop => .stop) | .stop => .stop := rfl
@[simp] theorem ev_sl (a : Ex) (lo hi : List Ex) : ev cf (.sl a lo hi) r m = match ev cf a r m with
    | .ok x m1 => (match evs cf lo r m1 with
      | .ok l m2 => (match evs cf hi r m2 with
        | .ok h m3 => (match boundOf l, boundOf h with
          | some l', some h' => slD x l' h' m3
          | _, _ => .stop)
        | .stop => .stop)
      | .stop => .stop)
    | .stop => .stop := rfl
@[simp] theorem ev_bin (o : Bop) (a b : Ex) : ev cf (.bin o a b) r m = match ev cf a r m with | .ok x m1 => (match ev cf b r m1 with | .ok y m2 => binD o x y m2 | .stop => .stop) | .stop => .stop := rfl
@[simp] theorem ev_cmp (o : Cop) (a b : Ex) : ev cf (.cmp o a b) r m = match ev cf a r m with | .ok x m1 => (match ev cf b r m1 with | .ok y m2 => cmpD o x y m2 | .stop => .stop) | .stop => .stop := rfl
@[simp] theorem ev_not (a : Ex) : ev cf (.not a) r m = match testOf (ev cf a r m) with | .ok b m1 => .ok (.bl (!b)) m1 | .stop => .stop := rfl
@[simp] theorem ev_and (a b : Ex) : ev cf (.and a b) r m = match ev cf a r m with
    | .ok x m1 => (match truth x m1 with | some true => ev cf b r m1 | some false => .ok x m1 | none => .stop)
    | .stop => .stop := rfl
@[simp] theorem ev_or (a b : Ex) : ev cf (.or a b) r m = match ev cf a r m with
    | .ok x m1 => (match truth x m1 with | some true => .ok x m1 | some false => ev cf b r m1 | none => .stop)
    | .stop => .stop := rfl
@[simp] theorem ev_ite (t a b : Ex) : ev cf (.ite t a b) r m = match testOf (ev cf t r m) with | .ok true m1 => ev cf a r m1 | .ok false m1 => ev cf b r m1 | .stop => .stop := rfl
@[simp] theorem ev_call (f : Nat) (l : List Ex) : ev cf (.call f l) r m = match evs cf l r m with | .ok ds m1 => cf f ds m1 | .stop => .stop := rfl
@[simp] theorem ev_bi (b : Bi) (l : List Ex) : ev cf (.bi b l) r m = match evs cf l r m with | .ok ds m1 => biD b ds m1 | .stop => .stop := rfl
@[simp] theorem ev_isin (a : Ex) (t : Ty) : ev cf (.isin a t) r m = match ev cf a r m with | .ok x m1 => (match isD x t m1 with | some b => .ok (.bl b) m1 | none => .stop) | .stop => .stop := rfl
@[simp] theorem ev_me (e : Me) (o : Ex) (l : List Ex) : ev cf (.me e o l) r m = match ev cf o r m with
    | .ok (.obj i) m1 => (match m1[i]? with
      | some (.lst _) => (match evs cf l r m1 with | .ok ds m2 => meD e (.obj i) ds m2 | .stop => .stop)
      | _ => .stop)
    | _ => .stop := rfl
@[simp] theorem ev_isN (a : Ex) : ev cf (.isN a) r m = match ev cf a r m with | .ok .non m1 => .ok (.bl true) m1 | .ok .opq _ => .stop | .ok _ m1 => .ok (.bl false) m1 | .stop => .stop := rfl
@[simp] theorem ev_notN (a : Ex) : ev cf (.notN a) r m = match ev cf a r m with | .ok .non m1 => .ok (.bl false) m1 | .ok .opq _ => .stop | .ok _ m1 => .ok (.bl true) m1 | .stop => .stop := rfl
@[simp] theorem ev_rev (a : Ex) : ev cf (.rev a) r m = match ev cf a r m with | .ok (.tup l) m1 => .ok (.tup l.reverse) m1 | .ok (.lst l) m1 => .ok (.lst l.reverse) m1 | _ => .stop := rfl
@[simp] theorem ev_reprEq (n : Bool) (a b : Ex) : ev cf (.reprEq n a b) r m = match ev cf a r m with | .ok x m1 => (match ev cf b r m1 with | .ok y m2 => reprEqD n x y m2 | .stop => .stop) | .stop => .stop := rfl
@[simp] theorem ev_reprNil (n : Bool) (a : Ex) : ev cf (.reprNil n a) r m = match ev cf a r m with | .ok x m1 => reprNilD n x m1 | .stop => .stop := rfl
@[simp] theorem ev_dct (ks vs : List Ex) : ev cf (.dct false false ks vs) r m = match evs cf ks r m with
    | .ok kd m1 => (match evs cf vs r m1 with | .ok vd m2 => .ok (.dct false kd vd) m2 | .stop => .stop)
    | .stop => .stop := rfl
@[simp] theorem ev_dctM (ks vs : List Ex) : ev cf (.dct true false ks vs) r m = match evs cf ks r m with
    | .ok kd m1 => (match evs cf vs r m1 with | .ok vd m2 => .ok (.obj m2.length) (m2 ++ [.dct false (kd.zip vd) false]) | .stop => .stop)
    | .stop => .stop := rfl
@[simp] theorem ev_catM (a b : Ex) : ev cf (.catM a b) r m = match ev cf a r m with
    | .ok x m1 => (match ev cf b r m1 with
      | .ok y m2 => (match itemsOf x m2, itemsOf y m2 with
        | some l, some k => if decide (l.length + k.length ≤ line) then .ok (.obj m2.length) (m2 ++ [.lst (l ++ k)]) else .stop
        | _, _ => .stop)
      | .stop => .stop)
    | .stop => .stop := rfl
@[simp] theorem evs_nil : evs cf [] r m = .ok [] m := rfl
@[simp] theorem evs_cons (e : Ex) (l : List Ex) : evs cf (e :: l) r m = match ev cf e r m with | .ok d m1 => (match evs cf l r m1 with | .ok ds m2 => .ok (d :: ds) m2 | .stop => .stop) | .stop => .stop := rfl
@[simp] theorem test_ok' (d : D) : testOf (.ok d m) = match truth d m with | some b => .ok b m | none => .stop := rfl
@[simp] theorem truth_b (b : Bool) : truth (.bl b) m = some b := rfl
@[simp] theorem evS_set (i : Nat) (e : Ex) : evS cf (.set i e) r m = match ev cf e r m with | .ok d m1 => .nx (r.set i (some d)) m1 | .stop => .stop := rfl
@[simp] theorem evS_par (is : List Nat) (es : List Ex) : evS cf (.par is es) r m = match evs cf es r m with | .ok ds m1 => if is.length = ds.length then .nx (setAll is ds r) m1 else .stop | .stop => .stop := rfl
@[simp] theorem evS_setix (o k e : Ex) : evS cf (.setix o k e) r m = match ev cf e r m with
    | .ok d m1 => (match ev cf o r m1 with
      | .ok x m2 => (match ev cf k r m2 with
        | .ok y m3 => (match setixD x y d m3 with | some m4 => .nx r m4 | none => .stop)
        | .stop => .stop)
      | .stop => .stop)
    | .stop => .stop := rfl
@[simp] theorem evS_ex (e : Ex) : evS cf (.ex e) r m = match ev cf e r m with | .ok _ m1 => .nx r m1 | .stop => .stop := rfl
@[simp] theorem evS_ite (t : Ex) (a b : List St) : evS cf (.ite t a b) r m = match testOf (ev cf t r m) with | .ok true m1 => evSs cf a r m1 | .ok false m1 => evSs cf b r m1 | .stop => .stop := rfl
@[simp] theorem evS_ret (e : Ex) : evS cf (.ret e) r m = match ev cf e r m with | .ok d m1 => .rt d m1 | .stop => .stop := rfl
@[simp] theorem evS_cont : evS cf .cont r m = .ct r m := rfl
@[simp] theorem evSs_nil : evSs cf [] r m = .nx r m := rfl
@[simp] theorem evSs_cons (s : St) (l : List St) : evSs cf (s :: l) r m = match evS cf s r m with | .nx r1 m1 => evSs cf l r1 m1 | o => o := rfl
theorem evS_while (t : Ex) (b : List St) : evS cf (.while t b) r m = whileL (fun r m => testOf (ev cf t r m)) (fun r m => evSs cf b r m) maxLoops r m := by
  simp only [evS]
theorem evS_for (t : Tg) (it : It) (b : List St) : evS cf (.for t it b) r m = match evIt cf it r m with
    | .ok (.vals l) m1 => forL t (fun r m => evSs cf b r m) l r m1
    | .ok (.live o) m1 => forLive t (fun r m => evSs cf b r m) o maxLoops 0 r m1
    | _ => .stop := rfl
theorem run_fn {f : Fn} {args : List D} (h : args.length = f.arity) : runFn cf f args m = match evSs cf f.code (args.map some ++ List.replicate (f.slots - f.arity) none) m with
    | .nx _ m1 => .ok .non m1
    | .rt d m1 => .ok d m1
    | _ => .stop := by
  unfold runFn
  rw [if_pos h]
  all_goals rfl
/-! primitives -/
@[simp] theorem add_int (i j : Int) : binD .add (.int i) (.int j) m = .ok (.int (i + j)) m := rfl
@[simp] theorem sub_int (i j : Int) : binD .sub (.int i) (.int j) m = .ok (.int (i - j)) m := rfl
@[simp] theorem cmp_lt (i j : Int) : cmpD .lt (.int i) (.int j) m = .ok (.bl (decide (i < j))) m := rfl
@[simp] theorem cmp_gt (i j : Int) : cmpD .gt (.int i) (.int j) m = .ok (.bl (decide (j < i))) m := rfl
@[simp] theorem cmp_ge (i j : Int) : cmpD .ge (.int i) (.int j) m = .ok (.bl (decide (j ≤ i))) m := rfl
@[simp] theorem cmp_eq_int (i j : Int) : cmpD .eq (.int i) (.int j) m = .ok (.bl (i == j)) m := rfl
@[simp] theorem cmp_ne_int (i j : Int) : cmpD .ne (.int i) (.int j) m = .ok (.bl (!(i == j))) m := rfl
@[simp] theorem cmp_eq_str (x y : List Nat) : cmpD .eq (.str x) (.str y) m = .ok (.bl (x == y)) m := rfl
@[simp] theorem cmp_ne_str (x y : List Nat) : cmpD .ne (.str x) (.str y) m = .ok (.bl (!(x == y))) m := rfl
@[simp] theorem len_tup (l : List D) : biD .len [.tup l] m = .ok (.int l.length) m := rfl
@[simp] theorem len_lst (l : List D) : biD .len [.lst l] m = .ok (.int l.length) m := rfl
@[simp] theorem tuple_lst (l : List D) : biD .tuple [.lst l] m = .ok (.tup l) m := rfl
@[simp] theorem ix_tup (l : List D) (i : Int) : ixD (.tup l) (.int i) m = match idx? l i with | some d => .ok d m | none => .stop := rfl
@[simp] theorem ix_lst (l : List D) (i : Int) : ixD (.lst l) (.int i) m = match idx? l i with | some d => .ok d m | none => .stop := rfl
@[simp] theorem idx_0 (l : List D) : idx? l 0 = l[0]? := rfl
@[simp] theorem idx_1 (l : List D) : idx? l 1 = l[1]? := rfl
@[simp] theorem idx_2 (l : List D) : idx? l 2 = l[2]? := rfl
@[simp] theorem idx_3 (l : List D) : idx? l 3 = l[3]? := rfl
@[simp] theorem isD_tup_tuple (l : List D) : isD (.tup l) .tuple m = some true := rfl
@[simp] theorem isD_tup_str (l : List D) : isD (.tup l) .str m = some false := rfl
@[simp] theorem isD_tup_int (l : List D) : isD (.tup l) .int m = some false := rfl
@[simp] theorem isD_str_tuple (l : List Nat) : isD (.str l) .tuple m = some false := rfl
@[simp] theorem isD_str_str (l : List Nat) : isD (.str l) .str m = some true := rfl
@[simp] theorem isD_str_int (l : List Nat) : isD (.str l) .int m = some false := rfl
@[simp] theorem isD_int_tuple (i : Int) : isD (.int i) .tuple m = some false := rfl
@[simp] theorem isD_int_str (i : Int) : isD (.int i) .str m = some false := rfl
@[simp] theorem isD_int_int (i : Int) : isD (.int i) .int m = some true := rfl
@[simp] theorem isD_bl_tuple (i : Bool) : isD (.bl i) .tuple m = some false := rfl
@[simp] theorem isD_bl_str (i : Bool) : isD (.bl i) .str m = some false := rfl
@[simp] theorem isD_non_tuple  : isD .non .tuple m = some false := rfl
@[simp] theorem isD_non_str  : isD .non .str m = some false := rfl
/-! comprehensions over given items -/
theorem ev_comp (own : List Nat) (t : Tg) (it : It) (ts : List Ex) (x : Ex) : ev cf (.comp false own t it ts x) r m = match evIt cf it r m with
    | .ok (.vals l) m1 =>
      (match compL t (wipeE r own) (fun r m => evTests cf ts r m) (fun r m => ev cf x r m) l [] m1 with
        | .ok ds m2 => if false = true then .ok (.obj m2.length) (m2 ++ [.lst ds]) else .ok (.lst ds) m2
        | .stop => .stop)
    | .ok (.live o) m1 =>
      (match compLive t (wipeE r own) (fun r m => evTests cf ts r m) (fun r m => ev cf x r m) o maxLoops 0 [] m1 with
        | .ok ds m2 => if false = true then .ok (.obj m2.length) (m2 ++ [.lst ds]) else .ok (.lst ds) m2
        | .stop => .stop)
    | .ok (.keys o) m1 => (match m1[o]? with
      | some (.dct tk kv false) =>
        (match compL t (wipeE r own) (fun r m => evTests cf ts r m) (fun r m => ev cf x r m) (kv.map (·.1)) [] (lock true o m1) with
          | .ok ds m2 => if false = true then .ok (.obj m2.length) (lock false o m2 ++ [.lst ds]) else .ok (.lst ds) (lock false o m2)
          | .stop => .stop)
      | _ => .stop)
    | .stop => .stop := rfl
/-- each item gives its value, the memory as it was -/
def Steps (t : Tg) (rw : Env) (f : Env → Mem → R D) (m : Mem) : List D → List D → Prop
  | [], ys => ys = []
  | d :: l, ys => ∃ r1 y zs, ys = y :: zs ∧ tgt t d rw = some r1 ∧ f r1 m = .ok y m ∧ Steps t rw f m l zs
theorem compL_steps {t : Tg} {rw : Env} {f : Env → Mem → R D} : ∀ (l ys acc : List D), Steps t rw f m l ys → acc.length + l.length ≤ line → compL t rw (fun r m => evTests cf [] r m) f l acc m = .ok (acc ++ ys) m
  | [], ys, acc, h, _ => by
    have h : ys = [] := h
    subst h
    simp [compL]
  | d :: l, ys, acc, h, hl => by
    obtain ⟨r1, y, zs, rfl, h1, h2, h3⟩ := h
    simp only [List.length_cons] at hl
    have hlt : acc.length < line := by omega
    have ih := compL_steps l zs (acc ++ [y]) h3 (by simp; omega)
    show (match tgt t d rw with
      | none => R.stop
      | some r1 => match evTests cf [] r1 m with
        | .stop => .stop
        | .ok false m1 => compL t rw (fun r m => evTests cf [] r m) f l acc m1
        | .ok true m1 => match f r1 m1 with
          | .stop => .stop
          | .ok x m2 => if acc.length < line then compL t rw (fun r m => evTests cf [] r m) f l (acc ++ [x]) m2 else .stop) = _
    rw [h1]
    show (match f r1 m with
      | .stop => R.stop
      | .ok x m2 => if acc.length < line then compL t rw (fun r m => evTests cf [] r m) f l (acc ++ [x]) m2 else .stop) = _
    rw [h2]
    show (if acc.length < line then compL t rw (fun r m => evTests cf [] r m) f l (acc ++ [y]) m else .stop) = _
    rw [if_pos hlt, ih, List.append_assoc]
    rfl
theorem comp_vals {own : List Nat} {t : Tg} {it : It} {x : Ex} {l ys : List D} {m1 : Mem} (hi : evIt cf it r m = .ok (.vals l) m1) (hs : Steps t (wipeE r own) (fun r m => ev cf x r m) m1 l ys) (hl : l.length ≤ line) : ev cf (.comp false own t it [] x) r m = .ok (.lst ys) m1 := by
  rw [ev_comp, hi]
  simp only
  rw [compL_steps l ys [] hs (by simpa using hl)]
  rfl
@[simp] theorem evIt_enum (e : Ex) : evIt cf (.enum e) r m = match ev cf e r m with
    | .ok (.tup l) m1 => .ok (.vals (enumFrom 0 l)) m1
    | .ok (.lst l) m1 => .ok (.vals (enumFrom 0 l)) m1
    | _ => .stop := rfl
@[simp] theorem evIt_range1 (b : Ex) : evIt cf (.range1 b) r m = match ev cf b r m with
    | .ok (.int j) m1 => if small62 j then .ok (.vals (intRange 0 j)) m1 else .stop
    | _ => .stop := rfl
theorem enum_len : ∀ (l : List D) (n : Nat), (enumFrom n l).length = l.length
  | [], _ => rfl
  | d :: r, n => by simp [enumFrom, enum_len r]
theorem idx_nat (l : List D) (n : Nat) : idx? l (n : Int) = l[n]? := by
  unfold idx?
  rw [if_pos (Int.natCast_nonneg n), Int.toNat_natCast]
end
end MP
set_option autoImplicit false
namespace K96
open MP
theorem call_is_list (n : Nat) (a : List D) (M : Mem) : callN fns (n + 1) 0 a M = runFn (callN fns n) ⟨1, 1, c_is_list⟩ a M := rfl
theorem call_node_of (n : Nat) (a : List D) (M : Mem) : callN fns (n + 1) 1 a M = runFn (callN fns n) ⟨2, 6, c_node_of⟩ a M := rfl
theorem call_path_of (n : Nat) (a : List D) (M : Mem) : callN fns (n + 1) 2 a M = runFn (callN fns n) ⟨1, 1, c_path_of⟩ a M := rfl
theorem call_letters (n : Nat) (a : List D) (M : Mem) : callN fns (n + 1) 3 a M = runFn (callN fns n) ⟨2, 2, c_letters⟩ a M := rfl
theorem call_words_in (n : Nat) (a : List D) (M : Mem) : callN fns (n + 1) 4 a M = runFn (callN fns n) ⟨1, 4, c_words_in⟩ a M := rfl
theorem call_is_mark (n : Nat) (a : List D) (M : Mem) : callN fns (n + 1) 5 a M = runFn (callN fns n) ⟨2, 2, c_is_mark⟩ a M := rfl
theorem call_is_plain_tail (n : Nat) (a : List D) (M : Mem) : callN fns (n + 1) 6 a M = runFn (callN fns n) ⟨1, 1, c_is_plain_tail⟩ a M := rfl
theorem call_pattern_fault (n : Nat) (a : List D) (M : Mem) : callN fns (n + 1) 7 a M = runFn (callN fns n) ⟨3, 4, c_pattern_fault⟩ a M := rfl
theorem call_row_fault (n : Nat) (a : List D) (M : Mem) : callN fns (n + 1) 8 a M = runFn (callN fns n) ⟨4, 9, c_row_fault⟩ a M := rfl
theorem call_whole_fault (n : Nat) (a : List D) (M : Mem) : callN fns (n + 1) 9 a M = runFn (callN fns n) ⟨2, 2, c_whole_fault⟩ a M := rfl
theorem call_is_as_it_is (n : Nat) (a : List D) (M : Mem) : callN fns (n + 1) 10 a M = runFn (callN fns n) ⟨2, 2, c_is_as_it_is⟩ a M := rfl
theorem call_has_name (n : Nat) (a : List D) (M : Mem) : callN fns (n + 1) 11 a M = runFn (callN fns n) ⟨2, 3, c_has_name⟩ a M := rfl
theorem call_template_fault (n : Nat) (a : List D) (M : Mem) : callN fns (n + 1) 12 a M = runFn (callN fns n) ⟨4, 9, c_template_fault⟩ a M := rfl
theorem call_plain_rule (n : Nat) (a : List D) (M : Mem) : callN fns (n + 1) 13 a M = runFn (callN fns n) ⟨1, 2, c_plain_rule⟩ a M := rfl
theorem call_rule_fault (n : Nat) (a : List D) (M : Mem) : callN fns (n + 1) 14 a M = runFn (callN fns n) ⟨3, 5, c_rule_fault⟩ a M := rfl
theorem call_looked_at (n : Nat) (a : List D) (M : Mem) : callN fns (n + 1) 15 a M = runFn (callN fns n) ⟨2, 3, c_looked_at⟩ a M := rfl
theorem call_pattern_names (n : Nat) (a : List D) (M : Mem) : callN fns (n + 1) 16 a M = runFn (callN fns n) ⟨2, 2, c_pattern_names⟩ a M := rfl
theorem call__law_begun (n : Nat) (a : List D) (M : Mem) : callN fns (n + 1) 17 a M = runFn (callN fns n) ⟨2, 6, c__law_begun⟩ a M := rfl
theorem call__law_draw (n : Nat) (a : List D) (M : Mem) : callN fns (n + 1) 18 a M = runFn (callN fns n) ⟨2, 8, c__law_draw⟩ a M := rfl
theorem call__law_of (n : Nat) (a : List D) (M : Mem) : callN fns (n + 1) 19 a M = runFn (callN fns n) ⟨2, 2, c__law_of⟩ a M := rfl
theorem call__law_w (n : Nat) (a : List D) (M : Mem) : callN fns (n + 1) 20 a M = runFn (callN fns n) ⟨1, 1, c__law_w⟩ a M := rfl
theorem call__law_is_list (n : Nat) (a : List D) (M : Mem) : callN fns (n + 1) 21 a M = runFn (callN fns n) ⟨1, 1, c__law_is_list⟩ a M := rfl
theorem call__law_is_word (n : Nat) (a : List D) (M : Mem) : callN fns (n + 1) 22 a M = runFn (callN fns n) ⟨1, 1, c__law_is_word⟩ a M := rfl
theorem call__law_is_mark (n : Nat) (a : List D) (M : Mem) : callN fns (n + 1) 23 a M = runFn (callN fns n) ⟨1, 1, c__law_is_mark⟩ a M := rfl
theorem call__law_words_in (n : Nat) (a : List D) (M : Mem) : callN fns (n + 1) 24 a M = runFn (callN fns n) ⟨1, 3, c__law_words_in⟩ a M := rfl
theorem call__law_p_fault (n : Nat) (a : List D) (M : Mem) : callN fns (n + 1) 25 a M = runFn (callN fns n) ⟨5, 5, c__law_p_fault⟩ a M := rfl
theorem call__law_p_items (n : Nat) (a : List D) (M : Mem) : callN fns (n + 1) 26 a M = runFn (callN fns n) ⟨6, 11, c__law_p_items⟩ a M := rfl
theorem call__law_t_fault (n : Nat) (a : List D) (M : Mem) : callN fns (n + 1) 27 a M = runFn (callN fns n) ⟨5, 11, c__law_t_fault⟩ a M := rfl
theorem call__law_pattern (n : Nat) (a : List D) (M : Mem) : callN fns (n + 1) 28 a M = runFn (callN fns n) ⟨2, 7, c__law_pattern⟩ a M := rfl
theorem call__law_template (n : Nat) (a : List D) (M : Mem) : callN fns (n + 1) 29 a M = runFn (callN fns n) ⟨4, 10, c__law_template⟩ a M := rfl
theorem call__law_bent (n : Nat) (a : List D) (M : Mem) : callN fns (n + 1) 30 a M = runFn (callN fns n) ⟨3, 6, c__law_bent⟩ a M := rfl
theorem call__law_turn_right (n : Nat) (a : List D) (M : Mem) : callN fns (n + 1) 31 a M = runFn (callN fns n) ⟨1, 11, c__law_turn_right⟩ a M := rfl
theorem call__law_hand_right (n : Nat) (a : List D) (M : Mem) : callN fns (n + 1) 32 a M = runFn (callN fns n) ⟨0, 6, c__law_hand_right⟩ a M := rfl
theorem call_law (n : Nat) (a : List D) (M : Mem) : callN fns (n + 1) 33 a M = runFn (callN fns n) ⟨1, 2, c_law⟩ a M := rfl
end K96
set_option autoImplicit false
set_option linter.all false
namespace K96
open MP
section
variable {cf : CF} {m : Mem} {r : Env}
@[simp] theorem runFn_eq (f : Fn) (args : List D) : runFn cf f args m = if args.length = f.arity then
    match evSs cf f.code (args.map some ++ List.replicate (f.slots - f.arity) none) m with
    | .nx _ m1 => .ok .non m1
    | .rt d m1 => .ok d m1
    | _ => .stop
  else .stop := rfl
@[simp] theorem pure_tup (l : List D) : D.pure (.tup l) = D.pureAll l := rfl
@[simp] theorem pure_lst (l : List D) : D.pure (.lst l) = D.pureAll l := rfl
@[simp] theorem pure_dct (k : Bool) (a b : List D) : D.pure (.dct k a b) = false := rfl
@[simp] theorem pure_obj (i : Nat) : D.pure (.obj i) = false := rfl
@[simp] theorem pure_opq : D.pure .opq = false := rfl
@[simp] theorem pure_non : D.pure .non = true := rfl
@[simp] theorem pure_bl (b : Bool) : D.pure (.bl b) = true := rfl
@[simp] theorem pure_int (i : Int) : D.pure (.int i) = true := rfl
@[simp] theorem pure_str (s : List Nat) : D.pure (.str s) = true := rfl
@[simp] theorem pureAll_nil : D.pureAll [] = true := rfl
@[simp] theorem pureAll_cons (d : D) (l : List D) : D.pureAll (d :: l) = (D.pure d && D.pureAll l) := rfl
@[simp] theorem depth_tup (l : List D) : D.depth (.tup l) = D.depthAll l + 1 := rfl
@[simp] theorem depth_lst (l : List D) : D.depth (.lst l) = D.depthAll l + 1 := rfl
@[simp] theorem depth_non : D.depth .non = 0 := rfl
@[simp] theorem depth_bl (b : Bool) : D.depth (.bl b) = 0 := rfl
@[simp] theorem depth_int (i : Int) : D.depth (.int i) = 0 := rfl
@[simp] theorem depth_str (s : List Nat) : D.depth (.str s) = 0 := rfl
@[simp] theorem depthAll_nil : D.depthAll [] = 0 := rfl
@[simp] theorem depthAll_cons (d : D) (l : List D) : D.depthAll (d :: l) = Nat.max (D.depth d) (D.depthAll l) := rfl
@[simp] theorem okLen_eq (l : List D) : okLen l = decide (l.length ≤ line) := rfl
@[simp] theorem line_eq : MP.line = 16777216 := rfl
@[simp] theorem setAll_eq (is : List Nat) (ds : List D) : setAll is ds r = (is.zip ds).foldl (fun r p => r.set p.1 (some p.2)) r := rfl
@[simp] theorem tgt_v (i : Nat) (d : D) : tgt (.v i) d r = some (r.set i (some d)) := rfl
@[simp] theorem tgt_tup (is : List Nat) (ds : List D) : tgt (.tup is) (.tup ds) r = if is.length = ds.length then some ((is.zip ds).foldl (fun r p => r.set p.1 (some p.2)) r) else none := rfl
@[simp] theorem compL_nil (t : Tg) (ok : Env → Mem → R Bool) (f : Env → Mem → R D) (acc : List D) : compL t r ok f [] acc m = .ok acc m := rfl
@[simp] theorem forL_nil (t : Tg) (f : Env → Mem → O) : forL t f [] r m = .nx r m := rfl
@[simp] theorem wipeE_nil : wipeE r [] = r := rfl
@[simp] theorem wipeE_cons (v : Nat) (vs : List Nat) : wipeE r (v :: vs) = (wipeE r vs).set v none := rfl
end
theorem whileL_max (c : Env → Mem → R Bool) (f : Env → Mem → O) (r : Env) (m : Mem) : whileL c f maxLoops r m = match c r m with
    | .stop => .stop
    | .ok false m1 => .nx r m1
    | .ok true m1 => match f r m1 with
      | .nx r2 m2 => whileL c f 999999 r2 m2
      | .ct r2 m2 => whileL c f 999999 r2 m2
      | .bk r2 m2 => .nx r2 m2
      | .rt d m2 => .rt d m2
      | .stop => .stop := rfl
/-- a datum as the law draws it -/
inductive Dt where
  | lst (items : List Dt) (tail : Dt)
  | wrd (s : List Nat)
  | num (i : Int)
  | tru
  | nil
mutual
def emb : Dt → D
  | .lst l t => .tup [.str s_list, .tup (embs l), emb t]
  | .wrd s => .tup [.str s_name, .str s]
  | .num i => .int i
  | .tru => .bl true
  | .nil => .tup []
def embs : List Dt → List D
  | [] => []
  | x :: r => emb x :: embs r
end
mutual
/-- every list has an item -/
def wf : Dt → Bool
  | .lst l t => !l.isEmpty && wfs l && wf t
  | .wrd _ => true
  | .num _ => true
  | .tru => true
  | .nil => true
def wfs : List Dt → Bool
  | [] => true
  | x :: r => wf x && wfs r
end
mutual
def dp : Dt → Nat
  | .lst l t => max (dps l) (dp t) + 1
  | .wrd _ => 0
  | .num _ => 0
  | .tru => 0
  | .nil => 0
def dps : List Dt → Nat
  | [] => 0
  | x :: r => max (dp x) (dps r)
end
def isL : Dt → Bool
  | .lst _ _ => true
  | _ => false
def isW : Dt → Bool
  | .wrd _ => true
  | _ => false
def isM : Dt → Bool
  | .wrd s => s == s__
  | _ => false
def isNil : Dt → Bool
  | .nil => true
  | _ => false
@[simp] theorem embs_len : ∀ l : List Dt, (embs l).length = l.length
  | [] => rfl
  | x :: r => by simp [embs, embs_len r]
theorem embs_get : ∀ (l : List Dt) (i : Nat), (embs l)[i]? = l[i]?.map emb
  | [], i => by simp [embs]
  | x :: r, 0 => by simp [embs]
  | x :: r, i + 1 => by simp [embs, embs_get r i]
mutual
@[simp] theorem emb_pure : ∀ x : Dt, D.pure (emb x) = true
  | .lst l t => by simp [emb, embs_pure l, emb_pure t]
  | .wrd s => rfl
  | .num i => rfl
  | .tru => rfl
  | .nil => rfl
@[simp] theorem embs_pure : ∀ l : List Dt, D.pureAll (embs l) = true
  | [] => rfl
  | x :: r => by simp [embs, emb_pure x, embs_pure r]
end
mutual
theorem emb_depth : ∀ x : Dt, D.depth (emb x) ≤ 2 * dp x + 1
  | .lst l t => by
    have h1 := embs_depth l
    have h2 := emb_depth t
    simp only [emb, D.depth, D.depthAll, dp]
    simp only [Nat.max_def] at *
    repeat' split
    all_goals (repeat' split at *)
    all_goals omega
  | .wrd s => by simp [emb]
  | .num i => by simp [emb]
  | .tru => by simp [emb]
  | .nil => by simp [emb]
theorem embs_depth : ∀ l : List Dt, D.depthAll (embs l) ≤ 2 * dps l + 1
  | [] => by simp [embs]
  | x :: r => by
    have h1 := emb_depth x
    have h2 := embs_depth r
    simp only [embs, D.depthAll, dps]
    simp only [Nat.max_def] at *
    repeat' split
    all_goals (repeat' split at *)
    all_goals omega
end
@[simp] theorem min1 (a : Nat) : (Nat.min a 1 ≤ 64) = True := eq_true (Nat.le_trans (Nat.min_le_right a 1) (by decide))
@[simp] theorem min0 (a : Nat) : (Nat.min a 0 ≤ 64) = True := eq_true (Nat.le_trans (Nat.min_le_right a 0) (by decide))
@[simp] theorem min1l (a : Nat) : (Nat.min 1 a ≤ 64) = True := eq_true (Nat.le_trans (Nat.min_le_left 1 a) (by decide))
@[simp] theorem min0l (a : Nat) : (Nat.min 0 a ≤ 64) = True := eq_true (Nat.le_trans (Nat.min_le_left 0 a) (by decide))
theorem cmp_eq_gen (a b : D) (m : Mem) (h1 : D.pure a = true) (h2 : D.pure b = true) (h3 : Nat.min (D.depth a) (D.depth b) ≤ 64) : cmpD .eq a b m = .ok (.bl (eqv a b)) m := by
  unfold cmpD
  simp [h1, h2, h3]
theorem cmp_ne_gen (a b : D) (m : Mem) (h1 : D.pure a = true) (h2 : D.pure b = true) (h3 : Nat.min (D.depth a) (D.depth b) ≤ 64) : cmpD .ne a b m = .ok (.bl (!eqv a b)) m := by
  unfold cmpD
  simp [h1, h2, h3]
theorem eqv_mark (x : Dt) : eqv (emb x) (.tup [.str s_name, .str s__]) = isM x := by
  cases x with
  | wrd s => simp [emb, eqv, eqvAll, isM]
  | lst l t => simp [emb, eqv, eqvAll, isM]
  | num i => rfl
  | tru => rfl
  | nil => rfl
theorem eqv_nil (x : Dt) : eqv (emb x) (.tup []) = isNil x := by
  cases x <;> rfl
@[simp] theorem eq_mark (x : Dt) (m : Mem) : cmpD .eq (emb x) (.tup [.str s_name, .str s__]) m = .ok (.bl (isM x)) m := by
  rw [cmp_eq_gen _ _ _ (emb_pure x) rfl (Nat.le_trans (Nat.min_le_right _ _) (by decide)), eqv_mark]
@[simp] theorem eq_nil (x : Dt) (m : Mem) : cmpD .eq (emb x) (.tup []) m = .ok (.bl (isNil x)) m := by
  rw [cmp_eq_gen _ _ _ (emb_pure x) rfl (Nat.le_trans (Nat.min_le_right _ _) (by decide)), eqv_nil]
@[simp] theorem ne_nil (x : Dt) (m : Mem) : cmpD .ne (emb x) (.tup []) m = .ok (.bl (!isNil x)) m := by
  rw [cmp_ne_gen _ _ _ (emb_pure x) rfl (Nat.le_trans (Nat.min_le_right _ _) (by decide)), eqv_nil]

theorem e_is_list (n : Nat) (x : Dt) (M : Mem) (w : wf x = true) : callN fns (n + 1) 0 [emb x] M = .ok (.bl (isL x)) M := by
  rw [call_is_list]
  cases x with
  | lst l t =>
    cases l with
    | nil => simp [wf] at w
    | cons a r => simp [c_is_list, isL, emb, embs]
  | _ => simp [c_is_list, isL, emb]
theorem e_law_is_list (n : Nat) (x : Dt) (M : Mem) : callN fns (n + 1) 21 [emb x] M = .ok (.bl (isL x)) M := by
  rw [call__law_is_list]
  cases x <;> simp [c__law_is_list, isL, emb]
theorem e_law_is_word (n : Nat) (x : Dt) (M : Mem) : callN fns (n + 1) 22 [emb x] M = .ok (.bl (isW x)) M := by
  rw [call__law_is_word]
  cases x <;> simp [c__law_is_word, isW, emb]
theorem e_law_is_mark (n : Nat) (x : Dt) (M : Mem) : callN fns (n + 1) 23 [emb x] M = .ok (.bl (isM x)) M := by
  rw [call__law_is_mark]
  simp [c__law_is_mark]
end K96
set_option autoImplicit false
set_option linter.all false
namespace K96
open MP
def pth (p : List Nat) : D := .tup (p.map fun (k : Nat) => .int (k : Int))
mutual
/-- the node of a datum at a path -/
def nod : Dt → List Nat → D
  | .lst l t, p => .tup [.str s_row, .tup (nods l p 0), nod t (if isNil t then p else p ++ [l.length]), pth p]
  | .wrd s, p => .tup [.str s_word, .str s, pth p, pth p]
  | .num i, p => .tup [.str s_leaf, .int i, pth p]
  | .tru, p => .tup [.str s_leaf, .bl true, pth p]
  | .nil, p => .tup [.str s_leaf, .tup [], pth p]
def nods : List Dt → List Nat → Nat → List D
  | [], _, _ => []
  | x :: r, p, k => nod x (p ++ [k]) :: nods r p (k + 1)
end
theorem nods_len : ∀ (l : List Dt) (p : List Nat) (k : Nat), (nods l p k).length = l.length
  | [], _, _ => rfl
  | x :: r, p, k => by simp [nods, nods_len r]
@[simp] theorem pth_add (p : List Nat) (k : Nat) (m : Mem) (h : p.length < 1000) : binD .add (pth p) (.tup [.int (k : Int)]) m = .ok (pth (p ++ [k])) m := by
  have h2 : p.length + 1 ≤ 16777216 := by omega
  unfold pth binD
  simp [h2]
mutual
/-- no row is long -/
def sm : Dt → Bool
  | .lst l t => decide (l.length ≤ 1000) && sms l && sm t
  | .wrd _ => true
  | .num _ => true
  | .tru => true
  | .nil => true
def sms : List Dt → Bool
  | [] => true
  | x :: r => sm x && sms r
end
def nodeComp : Ex := .comp false [4, 5] (.tup [4, 5]) (.enum (.ix (.v 0) (.k (.int 1)))) [] (.call 1 [(.v 5), (.bin .add (.v 1) (.tup [(.v 4)]))])
mutual
theorem e_node : ∀ (x : Dt) (n : Nat) (p : List Nat) (M : Mem), wf x = true → sm x = true → dp x < n → p.length + dp x < 1000 → callN fns (n + 1) 1 [emb x, pth p] M = .ok (nod x p) M
  | .lst l t, n, p, M, w, s, hn, hp => by
    cases n with
    | zero => omega
    | succ n =>
      have w' := w
      simp only [wf, Bool.and_eq_true] at w'
      simp only [sm, Bool.and_eq_true, decide_eq_true_eq] at s
      simp only [dp] at hn hp
      have il := e_is_list n (.lst l t) M w
      have st := e_nodes l n p M 0 (emb (.lst l t)) w'.1.2 s.1.2 (by omega) (by omega)
      have hc : ev (callN fns (n + 1)) nodeComp [some (emb (.lst l t)), some (pth p), none, none, none, none] M = .ok (.lst (nods l p 0)) M :=
        comp_vals (l := enumFrom 0 (embs l)) (by simp [emb]) st (by rw [enum_len, embs_len]; show _ ≤ 16777216; omega)
      have tl : callN fns (n + 1) 1 [emb t, pth (if isNil t then p else p ++ [l.length])] M = .ok (nod t (if isNil t then p else p ++ [l.length])) M := by
        refine e_node t n _ M w'.2 s.2 (by omega) ?_
        split
        · omega
        · simp; omega
      rw [call_node_of]
      have hl : l.length ≤ 16777216 := by omega
      simp only [nodeComp] at hc
      simp only [emb] at il hc
      have hpl : p.length < 1000 := by omega
      cases hz : isNil t
      · rw [hz] at tl
        simp only [Bool.false_eq_true, if_false] at tl
        simp [c_node_of, emb, il, isL, hc, nods_len, hz, hpl, tl, nod]
      · rw [hz] at tl
        simp only [if_true] at tl
        simp [c_node_of, emb, il, isL, hc, nods_len, hz, hpl, tl, nod]
  | .wrd s, n, p, M, w, _, hn, hp => by
    cases n with
    | zero => omega
    | succ n =>
      have il := e_is_list n (.wrd s) M w
      have nn := ne_nil (.wrd s) M
      simp only [emb] at il nn
      rw [call_node_of]
      simp [c_node_of, emb, il, nn, isNil, isL, nod]
  | .num i, n, p, M, w, _, hn, hp => by
    cases n with
    | zero => omega
    | succ n =>
      have il := e_is_list n (.num i) M w
      simp only [emb] at il
      rw [call_node_of]
      simp [c_node_of, emb, il, isL, nod]
  | .tru, n, p, M, w, _, hn, hp => by
    cases n with
    | zero => omega
    | succ n =>
      have il := e_is_list n .tru M w
      simp only [emb] at il
      rw [call_node_of]
      simp [c_node_of, emb, il, isL, nod]
  | .nil, n, p, M, w, _, hn, hp => by
    cases n with
    | zero => omega
    | succ n =>
      have il := e_is_list n .nil M w
      have nn := ne_nil .nil M
      simp only [emb] at il nn
      rw [call_node_of]
      simp [c_node_of, emb, il, nn, isNil, isL, nod]
theorem e_nodes : ∀ (l : List Dt) (n : Nat) (p : List Nat) (M : Mem) (k : Nat) (d0 : D), wfs l = true → sms l = true → dps l < n → p.length + dps l + 1 < 1000 →
    Steps (.tup [4, 5]) (wipeE [some d0, some (pth p), none, none, none, none] [4, 5]) (fun r m => ev (callN fns (n + 1)) (.call 1 [(.v 5), (.bin .add (.v 1) (.tup [(.v 4)]))]) r m) M (enumFrom k (embs l)) (nods l p k)
  | [], n, p, M, k, d0, _, _, _, _ => rfl
  | x :: r, n, p, M, k, d0, w, s, hn, hp => by
    simp only [wfs, Bool.and_eq_true] at w
    simp only [sms, Bool.and_eq_true] at s
    simp only [dps] at hn hp
    have hx := e_node x n (p ++ [k]) M w.1 s.1 (by omega) (by simp; omega)
    have hpl : p.length < 1000 := by omega
    refine ⟨_, nod x (p ++ [k]), nods r p (k + 1), rfl, rfl, ?_, e_nodes r n p M (k + 1) d0 w.2 s.2 (by omega) (by omega)⟩
    simp [hpl, hx]
end
end K96
set_option autoImplicit false
set_option linter.all false
namespace K96
open MP
abbrev NM := List (List Nat × Nat)
def nms (nm : NM) : List (D × D) := nm.map fun q => (.str q.1, .int (q.2 : Int))
def has (nm : NM) (s : List Nat) : Bool := nm.any fun q => q.1 == s
def dOf (nm : NM) (s : List Nat) : Option Nat := (nm.find? fun q => q.1 == s).map (·.2)
/-- the names of a rule, of the law's walk: a dict of ours -/
def At (M : Mem) (o : Nat) (nm : NM) : Prop := M[o]? = some (.dct false (nms nm) false)
def rul (o : Nat) : D := .dct false [.str s_aliases, .str s_literals, .str s_names, .str s_likes, .str s_path, .str s_fresh, .str s_env] [.dct false [] [], .tup [.str s_lit], .obj o, .opq, .tup [], .non, .tup []]
@[simp] theorem rul_aliases (o : Nat) (m : Mem) : ixD (rul o) (.str s_aliases) m = .ok (.dct false [] []) m := rfl
@[simp] theorem rul_lits (o : Nat) (m : Mem) : ixD (rul o) (.str s_literals) m = .ok (.tup [.str s_lit]) m := rfl
@[simp] theorem rul_names (o : Nat) (m : Mem) : ixD (rul o) (.str s_names) m = .ok (.obj o) m := rfl
theorem look_nms (nm : NM) (s : List Nat) : lookK (.str s) (nms nm) = (dOf nm s).map fun (d : Nat) => D.int (d : Int) := by
  induction nm with
  | nil => rfl
  | cons q r ih =>
    show (if keyEq (.str q.1) (.str s) then some (D.int (q.2 : Int)) else lookK (.str s) (nms r)) = _
    rw [ih]
    have e : keyEq (.str q.1) (.str s) = (q.1 == s) := rfl
    rw [e]
    cases h : q.1 == s <;> simp [dOf, List.find?_cons, h]
theorem has_some (nm : NM) (s : List Nat) : (dOf nm s).isSome = has nm s := by
  induction nm with
  | nil => rfl
  | cons q r ih =>
    cases h : q.1 == s
    · simpa [dOf, has, List.find?_cons, h] using ih
    · simp [dOf, has, List.find?_cons, h]
theorem mem_nms {M : Mem} {o : Nat} {nm : NM} (h : At M o nm) (s : List Nat) : cmpD .mem (.str s) (.obj o) M = .ok (.bl (has nm s)) M := by
  have e : memD (.str s) (.obj o) M = some (has nm s) := by
    unfold memD
    unfold At at h
    simp only [h]
    have : isKey (.str s) = true := rfl
    have t : isTupKey (.str s) = false := rfl
    simp [this, t, look_nms, has_some]
  unfold cmpD
  simp only [e]
theorem put_nms (nm : NM) (s : List Nat) (d : Nat) (h : has nm s = false) : putK (.str s) (.int (d : Int)) (nms nm) = nms (nm ++ [(s, d)]) := by
  unfold putK
  have e : ((nms nm).any fun p => keyEq p.1 (.str s)) = has nm s := by
    induction nm with
    | nil => rfl
    | cons q r ih =>
      show (keyEq (.str q.1) (.str s) || (nms r).any fun p => keyEq p.1 (.str s)) = (q.1 == s || has r s)
      have hr : has r s = false := by
        have : (q.1 == s || has r s) = false := h
        simp only [Bool.or_eq_false_iff] at this
        exact this.2
      rw [ih hr]
      rfl
  rw [e, h]
  simp [nms]
theorem set_nms {M : Mem} {o : Nat} {nm : NM} (h : At M o nm) (s : List Nat) (d : Nat) (hn : has nm s = false) (hl : nm.length < 100000) : setixD (.obj o) (.str s) (.int (d : Int)) M = some (M.set o (.dct false (nms (nm ++ [(s, d)])) false)) := by
  unfold setixD
  unfold At at h
  simp only [h]
  have : isKey (.str s) = true := rfl
  have t : isTupKey (.str s) = false := rfl
  have l : (nms nm).length < 16777216 := by simp [nms]; omega
  simp [this, t, l, put_nms nm s d hn]
theorem at_set {M : Mem} {o : Nat} {nm : NM} (h : At M o nm) (nm' : NM) : At (M.set o (.dct false (nms nm') false)) o nm' := by
  unfold At at *
  have hlt : o < M.length := (List.getElem?_eq_some_iff.mp h).1
  rw [List.getElem?_set_self hlt]
theorem set_set {M : Mem} {o : Nat} (a b : MO) : (M.set o a).set o b = M.set o b := List.set_set ..
theorem at_same {M : Mem} {o : Nat} {nm : NM} (h : At M o nm) : M.set o (.dct false (nms nm) false) = M := by
  unfold At at h
  obtain ⟨hlt, e⟩ := List.getElem?_eq_some_iff.mp h
  rw [← e]
  exact List.set_getElem_self hlt

/-! ### marks -/
theorem e_letters (n : Nat) (s : List Nat) (M : Mem) : callN fns (n + 1) 3 [.dct false [] [], .str s] M = .ok (.str s) M := by
  rw [call_letters]
  have hw : evS (callN fns n) (.while (.not (.isin (.v 1) .str)) [.set 1 (.ix (.ix (.v 0) (.v 1)) (.k (.int 0)))]) [some (.dct false [] []), some (.str s)] M = .nx [some (.dct false [] []), some (.str s)] M := by
    rw [evS_while, whileL_max]
    simp
  simp [c_letters, hw]
theorem e_is_mark (n : Nat) (x : Dt) (p : List Nat) (o : Nat) (M : Mem) : callN fns (n + 2) 5 [rul o, nod x p] M = .ok (.bl (isM x)) M := by
  rw [call_is_mark]
  cases x with
  | wrd s => simp [c_is_mark, nod, e_letters, isM]
  | lst l t => simp [c_is_mark, nod, isM, s_row, s_word]
  | num i => simp [c_is_mark, nod, isM, s_leaf, s_word]
  | tru => simp [c_is_mark, nod, isM, s_leaf, s_word]
  | nil => simp [c_is_mark, nod, isM, s_leaf, s_word]

/-! ### the mirror of both -/
def headM : List Dt → Nat
  | x :: _ => if isM x then 1 else 0
  | [] => 0
mutual
def pF (nm : NM) : Dt → List Nat → Nat → Option (List Nat) × NM
  | .lst l t, p, d => match pI nm l 0 true false p d with
    | (some q, nm') => (some q, nm')
    | (none, nm') => pF nm' t (p ++ [l.length]) d
  | .wrd s, p, d => if s == s__ || has nm s then (some p, nm) else if !(s == s_lit) && !(s == s___1) then (none, nm ++ [(s, d)]) else (none, nm)
  | .num _, _, _ => (none, nm)
  | .tru, _, _ => (none, nm)
  | .nil, _, _ => (none, nm)
def pI (nm : NM) : List Dt → Nat → Bool → Bool → List Nat → Nat → Option (List Nat) × NM
  | [], _, _, _, _, _ => (none, nm)
  | x :: r, k, fst, mk, p, d =>
    if isM x then (if fst || mk then (some (p ++ [k]), nm) else pI nm r (k + 1) false true p d)
    else match pF nm x (p ++ [k]) (d + headM r) with
      | (some q, nm') => (some q, nm')
      | (none, nm') => pI nm' r (k + 1) false mk p d
end
def optD : Option (List Nat) → D
  | none => .non
  | some q => pth q
end K96
set_option autoImplicit false
set_option linter.all false
namespace K96
open MP
mutual
/-- how many data -/
def wn : Dt → Nat
  | .lst l t => wns l + wn t + 1
  | .wrd _ => 1
  | .num _ => 1
  | .tru => 1
  | .nil => 1
def wns : List Dt → Nat
  | [] => 0
  | x :: r => wn x + wns r
end
mutual
theorem pF_len : ∀ (x : Dt) (nm : NM) (p : List Nat) (d : Nat), (pF nm x p d).2.length ≤ nm.length + wn x
  | .lst l t, nm, p, d => by
    have h1 := pI_len l nm 0 true false p d
    simp only [pF, wn]
    cases e : pI nm l 0 true false p d with
    | mk a nm' =>
      rw [e] at h1
      cases a with
      | some q => simp only at h1 ⊢; omega
      | none =>
        have h2 := pF_len t nm' (p ++ [l.length]) d
        simp only at h1 h2 ⊢
        omega
  | .wrd s, nm, p, d => by
    simp only [pF, wn]
    split
    · simp
    · split <;> simp
  | .num _, nm, p, d => by simp [pF]
  | .tru, nm, p, d => by simp [pF]
  | .nil, nm, p, d => by simp [pF]
theorem pI_len : ∀ (l : List Dt) (nm : NM) (k : Nat) (fst mk : Bool) (p : List Nat) (d : Nat), (pI nm l k fst mk p d).2.length ≤ nm.length + wns l
  | [], nm, k, fst, mk, p, d => by simp [pI]
  | x :: r, nm, k, fst, mk, p, d => by
    simp only [pI, wns]
    split
    · split
      · simp
      · have := pI_len r nm (k + 1) false true p d
        omega
    · have h1 := pF_len x nm (p ++ [k]) (d + headM r)
      cases e : pF nm x (p ++ [k]) (d + headM r) with
      | mk a nm' =>
        rw [e] at h1
        cases a with
        | some q => simp only at h1 ⊢; omega
        | none =>
          have h2 := pI_len r nm' (k + 1) false mk p d
          simp only at h1 h2 ⊢
          omega
end
theorem nods_get : ∀ (l : List Dt) (p : List Nat) (k i : Nat), (nods l p k)[i]? = l[i]?.map fun x => nod x (p ++ [k + i])
  | [], p, k, i => by simp [nods]
  | x :: r, p, k, 0 => by simp [nods]
  | x :: r, p, k, i + 1 => by
    simp only [nods, List.getElem?_cons_succ]
    rw [nods_get r p (k + 1) i]
    have : k + 1 + i = k + (i + 1) := by omega
    rw [this]
theorem idx_succ (l : List D) (k : Nat) : idx? l ((k : Int) + 1) = l[k + 1]? := by
  rw [show ((k : Int) + 1) = ((k + 1 : Nat) : Int) from by omega, idx_nat]
def rowBody : List St := [
    .ite (.call 5 [(.v 0), (.v 6)]) [
      .ite (.or (.cmp .eq (.v 5) (.k (.int 0))) (.cmp .gt (.v 4) (.k (.int 0)))) [
        .ret (.ix (.v 6) (.k (.int 2)))] [],
      .set 4 (.bin .add (.v 4) (.k (.int 1)))] [
      .set 7 (.and (.cmp .lt (.bin .add (.v 5) (.k (.int 1))) (.bi .len [(.v 1)])) (.call 5 [(.v 0), (.ix (.v 1) (.bin .add (.v 5) (.k (.int 1))))])),
      .set 8 (.call 7 [(.v 0), (.v 6), (.bin .add (.v 3) (.ite (.v 7) (.k (.int 1)) (.k (.int 0))))]),
      .ite (.notN (.v 8)) [
        .ret (.v 8)] []]]
/-- the next one is a mark: as the code asks it -/
theorem next_mark {n b k : Nat} {o : Nat} {full r : List Dt} {x : Dt} {p : List Nat} {tl dd mm a6 a7 a8 : Option D} {M : Mem} (hd : full.drop k = x :: r) :
    ev (callN fns (n + 2)) (.and (.cmp .lt (.bin .add (.v 5) (.k (.int 1))) (.bi .len [(.v 1)])) (.call 5 [(.v 0), (.ix (.v 1) (.bin .add (.v 5) (.k (.int 1))))])) [some (rul o), some (.tup (nods full p b)), tl, dd, mm, some (.int (k : Int)), a6, a7, a8] M = .ok (.bl (headM r == 1)) M := by
  have hlen : full.length = k + (r.length + 1) := by
    have := congrArg List.length hd
    rw [List.length_drop, List.length_cons] at this
    have hk : k < full.length := by
      rcases Nat.lt_or_ge k full.length with h | h
      · exact h
      · rw [List.drop_eq_nil_of_le h] at hd; cases hd
    omega
  cases r with
  | nil =>
    have : ¬ ((k : Int) + 1 < (full.length : Int)) := by simp at hlen; omega
    simp [nods_len, this, headM]
  | cons y r =>
    have hlt : ((k : Int) + 1 < (full.length : Int)) := by simp at hlen; omega
    have hg : full[k + 1]? = some y := by
      have := congrArg (fun l => l[1]?) hd
      simpa [List.getElem?_drop] using this
    simp [nods_len, hlt, idx_succ, nods_get, hg, e_is_mark, headM]
    cases isM y <;> rfl
theorem tgt56 (d : D) (i : Nat) (e0 e1 e2 e3 e4 e5 e6 e7 e8 : Option D) : tgt (.tup [5, 6]) (.tup [.int (i : Int), d]) [e0, e1, e2, e3, e4, e5, e6, e7, e8] = some [e0, e1, e2, e3, e4, some (.int (i : Int)), some d, e7, e8] := rfl
theorem forL_cons {t : Tg} {f : Env → Mem → O} {d : D} {l : List D} {r r1 : Env} {m : Mem} (h : tgt t d r = some r1) : forL t f (d :: l) r m = match f r1 m with
    | .nx r2 m2 => forL t f l r2 m2
    | .ct r2 m2 => forL t f l r2 m2
    | .bk r2 m2 => .nx r2 m2
    | .rt d m2 => .rt d m2
    | .stop => .stop := by
  show (match tgt t d r with
    | none => O.stop
    | some r1 => match f r1 m with
      | .nx r2 m2 => forL t f l r2 m2
      | .ct r2 m2 => forL t f l r2 m2
      | .bk r2 m2 => .nx r2 m2
      | .rt d m2 => .rt d m2
      | .stop => .stop) = _
  rw [h]
def outNm (M : Mem) (o : Nat) (nm : NM) : Mem := M.set o (.dct false (nms nm) false)
theorem nod_path (s : List Nat) (p : List Nat) : nod (.wrd s) p = .tup [.str s_word, .str s, pth p, pth p] := rfl
/-- one turn of the row's loop, a mark -/
theorem turn_mark {n b k o d mk : Nat} {full : List Dt} {x : Dt} {p : List Nat} {tl : D} {a7 a8 : Option D} {M : Mem} (hx : isM x = true) :
    evSs (callN fns (n + 2)) rowBody [some (rul o), some (.tup (nods full p b)), some tl, some (.int (d : Int)), some (.int (mk : Int)), some (.int (k : Int)), some (nod x (p ++ [b + k])), a7, a8] M =
      if (k == 0 || decide (0 < mk)) = true then .rt (pth (p ++ [b + k])) M else .nx [some (rul o), some (.tup (nods full p b)), some tl, some (.int (d : Int)), some (.int ((mk + 1 : Nat) : Int)), some (.int (k : Int)), some (nod x (p ++ [b + k])), a7, a8] M := by
  cases x with
  | wrd s =>
    generalize p ++ [b + k] = q
    have e := e_is_mark n (.wrd s) q o M
    rw [hx] at e
    simp only [nod] at e
    by_cases hk : k = 0
    · subst hk
      simp [rowBody, e, nod]
    · have hk' : ((k : Int) == 0) = false := by simp; omega
      by_cases hm : 0 < mk
      · have hm' : (0 : Int) < (mk : Int) := by omega
        simp [rowBody, e, nod, hk, hk', hm, hm']
      · have hm' : ¬ ((0 : Int) < (mk : Int)) := by omega
        simp [rowBody, e, nod, hk, hk', hm, hm']
  | lst _ _ => cases hx
  | num _ => cases hx
  | tru => cases hx
  | nil => cases hx
/-- one turn, another datum -/
theorem turn_other {n b k o d mk : Nat} {full r : List Dt} {x : Dt} {p : List Nat} {tl : D} {a7 a8 : Option D} {M M' : Mem} {res : Option (List Nat)} (hx : isM x = false) (hd : full.drop k = x :: r)
    (hc : callN fns (n + 2) 7 [rul o, nod x (p ++ [b + k]), .int ((d + headM r : Nat) : Int)] M = .ok (optD res) M') :
    evSs (callN fns (n + 2)) rowBody [some (rul o), some (.tup (nods full p b)), some tl, some (.int (d : Int)), some (.int (mk : Int)), some (.int (k : Int)), some (nod x (p ++ [b + k])), a7, a8] M =
      res.elim (.nx [some (rul o), some (.tup (nods full p b)), some tl, some (.int (d : Int)), some (.int (mk : Int)), some (.int (k : Int)), some (nod x (p ++ [b + k])), some (.bl (headM r == 1)), some .non] M') fun q => .rt (pth q) M' := by
  have nmk := next_mark (n := n) (b := b) (o := o) (p := p) (tl := some tl) (dd := some (.int (d : Int))) (mm := some (.int (mk : Int))) (a6 := some (nod x (p ++ [b + k]))) (a7 := a7) (a8 := a8) (M := M) hd
  revert hc nmk
  generalize p ++ [b + k] = q
  intro hc nmk
  have e := e_is_mark n x q o M
  rw [hx] at e
  simp only [rowBody, evSs_cons, evS_ite, ev_call, evs_cons, ev_v, List.getElem?_cons_zero, List.getElem?_cons_succ, evs_nil, e, test_ok', truth_b, evS_set, nmk]
  have hh : (match headM r == 1 with | true => (1 : Int) | false => 0) = (headM r : Int) := by
    cases r with
    | nil => rfl
    | cons y r => simp only [headM]; cases isM y <;> rfl
  have hdd : (d : Int) + (headM r : Int) = ((d + headM r : Nat) : Int) := by omega
  cases hm : headM r == 1
  · have h0 : headM r = 0 := by
      cases r with
      | nil => rfl
      | cons y r => simp only [headM] at hm ⊢; cases hy : isM y <;> simp [hy] at hm ⊢
    rw [h0] at hc
    cases res with
    | none => simp [hc, optD, hm] at hc ⊢
    | some z => simp [hc, optD, pth] at hc ⊢
  · have h0 : headM r = 1 := by simpa using hm
    rw [h0] at hc
    cases res with
    | none => simp [hc, optD, hm] at hc ⊢
    | some z => simp [hc, optD, pth] at hc ⊢
end K96
set_option autoImplicit false
set_option linter.all false
namespace K96
open MP
def rowIt : St := .for (.tup [5, 6]) (.enum (.v 1)) rowBody
/-- the end of the loop over a row -/
def RowEnd (M : Mem) (o : Nat) (res : Option (List Nat) × NM) (e0 e1 e2 e3 : Option D) (out : O) : Prop := match res with
  | (some q, nm') => out = .rt (pth q) (outNm M o nm')
  | (none, nm') => ∃ x4 x5 x6 x7 x8, out = .nx [e0, e1, e2, e3, x4, x5, x6, x7, x8] (outNm M o nm')
theorem at_out {M : Mem} {o : Nat} {nm : NM} (h : At M o nm) (nm' : NM) : At (outNm M o nm') o nm' := at_set h nm'
theorem out_out {M : Mem} {o : Nat} (a b : NM) : outNm (outNm M o a) o b = outNm M o b := set_set _ _
theorem out_same {M : Mem} {o : Nat} {nm : NM} (h : At M o nm) : outNm M o nm = M := at_same h
theorem cell_at {M : Mem} {o : Nat} (nm nm' : NM) (h : At M o nm) : At (outNm M o nm') o nm' := at_set h nm'
theorem nmem_lit (s : List Nat) (m : Mem) : cmpD .nmem (.str s) (.tup [.str s_lit]) m = .ok (.bl (!(s == s_lit))) m := by
  have e : memD (.str s) (.tup [.str s_lit]) m = some (s == s_lit) := by
    have : (s_lit == s) = (s == s_lit) := by
      rw [Bool.eq_iff_iff]
      simp only [beq_iff_eq]
      exact ⟨Eq.symm, Eq.symm⟩
    unfold memD
    simp [flat, flatEq, this]
  unfold cmpD
  simp only [e]
@[simp] theorem ne_wl : (s_word == s_leaf) = false := by decide
@[simp] theorem ne_wr : (s_word == s_row) = false := by decide
@[simp] theorem ne_rl : (s_row == s_leaf) = false := by decide
@[simp] theorem ne_rw : (s_row == s_word) = false := by decide
@[simp] theorem ne_lw : (s_leaf == s_word) = false := by decide
@[simp] theorem ne_lr : (s_leaf == s_row) = false := by decide
mutual
theorem e_pF : ∀ (x : Dt) (n : Nat) (p : List Nat) (d o : Nat) (nm : NM) (M : Mem), 2 * dp x + 4 ≤ n → At M o nm → nm.length + wn x < 100000 →
    callN fns (n + 1) 7 [rul o, nod x p, .int (d : Int)] M = .ok (optD (pF nm x p d).1) (outNm M o (pF nm x p d).2)
  | .lst l t, n, p, d, o, nm, M, hn, ha, hw => by
    simp only [dp] at hn
    simp only [wn] at hw
    obtain ⟨n2, rfl⟩ : ∃ n2, n = n2 + 3 := ⟨n - 3, by omega⟩
    have ht : ∀ nm' M', At M' o nm' → nm'.length + wn t < 100000 → ∀ q, callN fns (n2 + 2) 7 [rul o, nod t q, .int (d : Int)] M' = .ok (optD (pF nm' t q d).1) (outNm M' o (pF nm' t q d).2) := fun nm' M' ha' hw' q => e_pF t (n2 + 1) q d o nm' M' (by omega) ha' hw'
    have lp := rows l n2 l 0 0 p d o nm M (nod t (if isNil t then p else p ++ [l.length])) 0 none none none none rfl (by omega) ha (by omega)
    have hr : callN fns (n2 + 3) 8 [rul o, .tup (nods l p 0), nod t (if isNil t then p else p ++ [l.length]), .int (d : Int)] M = .ok (optD (pF nm (.lst l t) p d).1) (outNm M o (pF nm (.lst l t) p d).2) := by
      rw [call_row_fault]
      have hf : evS (callN fns (n2 + 2)) rowIt [some (rul o), some (.tup (nods l p 0)), some (nod t (if isNil t then p else p ++ [l.length])), some (.int (d : Int)), some (.int 0), none, none, none, none] M = forL (.tup [5, 6]) (fun r m => evSs (callN fns (n2 + 2)) rowBody r m) (enumFrom 0 (nods l p 0)) [some (rul o), some (.tup (nods l p 0)), some (nod t (if isNil t then p else p ++ [l.length])), some (.int (d : Int)), some (.int 0), none, none, none, none] M := by
        unfold rowIt
        rw [evS_for]
        simp
      have lp : RowEnd M o (pI nm l 0 true false p d) (some (rul o)) (some (.tup (nods l p 0))) (some (nod t (if isNil t then p else p ++ [l.length]))) (some (.int (d : Int))) (forL (.tup [5, 6]) (fun r m => evSs (callN fns (n2 + 2)) rowBody r m) (enumFrom 0 (nods l p 0)) [some (rul o), some (.tup (nods l p 0)), some (nod t (if isNil t then p else p ++ [l.length])), some (.int (d : Int)), some (.int 0), none, none, none, none] M) := lp
      rw [← hf] at lp
      have hcode : c_row_fault = [.set 4 (.k (.int 0)), rowIt, .ret (.call 7 [(.v 0), (.v 2), (.v 3)])] := rfl
      have hlen := pI_len l nm 0 true false p d
      simp only [pF]
      cases e : pI nm l 0 true false p d with
      | mk a nm' =>
        rw [e] at lp hlen
        cases a with
        | some q =>
          have lp : evS (callN fns (n2 + 2)) rowIt _ M = .rt (pth q) (outNm M o nm') := lp
          simp [hcode, lp, optD]
        | none =>
          obtain ⟨x4, x5, x6, x7, x8, lp⟩ := lp
          simp only at hlen
          have hq : (pF nm' t (if isNil t then p else p ++ [l.length]) d) = pF nm' t (p ++ [l.length]) d := by
            cases t <;> simp [pF, isNil]
          have h2 := ht nm' (outNm M o nm') (at_out ha nm') (by omega) (if isNil t then p else p ++ [l.length])
          rw [hq, out_out] at h2
          simp [hcode, lp, h2]
    rw [call_pattern_fault]
    simp [c_pattern_fault, nod, hr]
  | .wrd s, n, p, d, o, nm, M, hn, ha, hw => by
    obtain ⟨n2, rfl⟩ : ∃ n2, n = n2 + 1 := ⟨n - 1, by omega⟩
    simp only [wn] at hw
    have hl := e_letters n2 s M
    have hm := mem_nms ha s
    rw [call_pattern_fault]
    simp only [pF]
    have hs := nmem_lit s M
    have hset := fun hf => set_nms ha s d hf (by omega)
    cases h1 : s == s__
    · cases h2 : has nm s
      · have hset := hset h2
        rw [h2] at hm
        cases h3 : s == s_lit
        · rw [h3] at hs
          cases h4 : s == s___1
          · simp [c_pattern_fault, nod, hl, h1, hm, hs, h4, hset, optD, outNm]
          · simp [c_pattern_fault, nod, hl, h1, hm, hs, h4, optD, out_same ha]
        · rw [h3] at hs
          simp [c_pattern_fault, nod, hl, h1, hm, hs, optD, out_same ha]
      · rw [h2] at hm
        simp [c_pattern_fault, nod, hl, h1, hm, optD, out_same ha]
    · simp [c_pattern_fault, nod, hl, h1, optD, out_same ha]
  | .num i, n, p, d, o, nm, M, hn, ha, hw => by
    rw [call_pattern_fault]
    simp [c_pattern_fault, nod, pF, optD, out_same ha]
  | .tru, n, p, d, o, nm, M, hn, ha, hw => by
    rw [call_pattern_fault]
    simp [c_pattern_fault, nod, pF, optD, out_same ha]
  | .nil, n, p, d, o, nm, M, hn, ha, hw => by
    rw [call_pattern_fault]
    simp [c_pattern_fault, nod, pF, optD, out_same ha]
theorem rows : ∀ (suf : List Dt) (n : Nat) (full : List Dt) (b k : Nat) (p : List Nat) (d o : Nat) (nm : NM) (M : Mem) (tl : D) (mk : Nat) (a5 a6 a7 a8 : Option D), full.drop k = suf → 2 * dps suf + 3 ≤ n → At M o nm → nm.length + wns suf < 100000 →
    RowEnd M o (pI nm suf (b + k) (k == 0) (decide (0 < mk)) p d) (some (rul o)) (some (.tup (nods full p b))) (some tl) (some (.int (d : Int)))
      (forL (.tup [5, 6]) (fun r m => evSs (callN fns (n + 2)) rowBody r m) (enumFrom k (nods suf p (b + k))) [some (rul o), some (.tup (nods full p b)), some tl, some (.int (d : Int)), some (.int (mk : Int)), a5, a6, a7, a8] M)
  | [], n, full, b, k, p, d, o, nm, M, tl, mk, a5, a6, a7, a8, hd, hn, ha, hw => by
    simp only [pI, RowEnd, nods, enumFrom, forL]
    rw [out_same ha]
    exact ⟨_, _, _, _, _, rfl⟩
  | x :: r, n, full, b, k, p, d, o, nm, M, tl, mk, a5, a6, a7, a8, hd, hn, ha, hw => by
    simp only [dps] at hn
    simp only [wns] at hw
    have hd2 : full.drop (k + 1) = r := by
      rw [← List.drop_drop, hd]; rfl
    simp only [nods, enumFrom]
    rw [forL_cons (tgt56 _ _ _ _ _ _ _ _ _ _ _)]
    simp only [pI]
    cases hx : isM x
    · -- no mark
      simp only [Bool.false_eq_true, if_false]
      have hc := e_pF x (n + 1) (p ++ [b + k]) (d + headM r) o nm M (by omega) ha (by omega)
      have hlen := pF_len x nm (p ++ [b + k]) (d + headM r)
      rw [turn_other hx hd hc]
      cases e : pF nm x (p ++ [b + k]) (d + headM r) with
      | mk a nm' =>
        rw [e] at hlen
        cases a with
        | some q => simp [RowEnd]
        | none =>
          have ih := rows r n full b (k + 1) p d o nm' (outNm M o nm') tl mk (some (.int (k : Int))) (some (nod x (p ++ [b + k]))) (some (.bl (headM r == 1))) (some .non) hd2 (by omega) (at_out ha nm') (by simp only at hlen; omega)
          have hk : (k + 1 == 0) = false := by simp
          rw [hk] at ih
          simp only [Option.elim]
          have hbk : b + (k + 1) = b + k + 1 := by omega
          rw [hbk] at ih
          unfold RowEnd at ih ⊢
          simp only [out_out] at ih
          exact ih
    · simp only [if_true]
      rw [turn_mark hx]
      by_cases hz : (k == 0 || decide (0 < mk)) = true
      · rw [if_pos hz, if_pos hz]
        simp only [RowEnd]
        rw [out_same ha]
      · rw [if_neg hz, if_neg hz]
        have ih := rows r n full b (k + 1) p d o nm M tl (mk + 1) (some (.int (k : Int))) (some (nod x (p ++ [b + k]))) a7 a8 hd2 (by omega) ha (by omega)
        have hk : (k + 1 == 0) = false := by simp
        have hm : decide (0 < mk + 1) = true := by simp
        rw [hk, hm] at ih
        have hbk : b + (k + 1) = b + k + 1 := by omega
        rw [hbk] at ih
        exact ih
end
end K96
set_option autoImplicit false
set_option linter.all false
set_option maxRecDepth 10000
namespace K96
open MP
def rangeFrom : Nat → Nat → List D
  | _, 0 => []
  | k, n + 1 => .int (k : Int) :: rangeFrom (k + 1) n
theorem range_nat : ∀ (n b : Nat), intRange (b : Int) ((b + n : Nat) : Int) = rangeFrom b n := by
  intro n
  have key : ∀ (n b : Nat), ((List.range n).map fun (i : Nat) => D.int ((b : Int) + (i : Int))) = rangeFrom b n := by
    intro n
    induction n with
    | zero => intro b; rfl
    | succ n ih =>
      intro b
      rw [List.range_succ_eq_map]
      simp only [List.map_cons, List.map_map, rangeFrom]
      rw [← ih (b + 1)]
      refine List.cons_eq_cons.mpr ⟨by simp, List.map_congr_left fun i _ => ?_⟩
      simp only [Function.comp]
      congr 1
      omega
  intro b
  unfold intRange
  have : ((((b + n : Nat) : Int) - (b : Int)).toNat) = n := by omega
  rw [this]
  exact key n b
def lawBody : List St := [
    .ite (.call 23 [(.ix (.v 6) (.v 8))]) [
      .set 7 (.bin .add (.v 7) (.k (.int 1))),
      .ite (.or (.cmp .eq (.v 8) (.v 1)) (.cmp .gt (.v 7) (.k (.int 1)))) [
        .ret (.bin .add (.v 2) (.tup [(.v 8)]))] []] [
      .set 9 (.ite (.and (.cmp .lt (.bin .add (.v 8) (.k (.int 1))) (.bi .len [(.v 6)])) (.call 23 [(.ix (.v 6) (.bin .add (.v 8) (.k (.int 1))))])) (.k (.int 1)) (.k (.int 0))),
      .set 10 (.call 25 [(.ix (.v 6) (.v 8)), (.bin .add (.v 2) (.tup [(.v 8)])), (.v 3), (.v 4), (.bin .add (.v 5) (.v 9))]),
      .ite (.notN (.v 10)) [
        .ret (.v 10)] []]]
def lit1 : D := .tup [.str s_lit]
def lenv (full : List Dt) (e0 : D) (b : Nat) (p : List Nat) (o d : Nat) (e7 e8 e9 e10 : Option D) : Env := [some e0, some (.int (b : Int)), some (pth p), some lit1, some (.obj o), some (.int (d : Int)), some (.tup (embs full)), e7, e8, e9, e10]
theorem drop_get {full r : List Dt} {x : Dt} {k : Nat} (hd : full.drop k = x :: r) : full[k]? = some x ∧ full[k + 1]? = r[0]? ∧ full.length = k + (r.length + 1) := by
  have h0 := congrArg (fun l => l[0]?) hd
  have h1 := congrArg (fun l => l[1]?) hd
  refine ⟨by simpa [List.getElem?_drop] using h0, by simpa [List.getElem?_drop] using h1, ?_⟩
  have hl := congrArg List.length hd
  rw [List.length_drop, List.length_cons] at hl
  rcases Nat.lt_or_ge k full.length with h | h
  · omega
  · rw [List.drop_eq_nil_of_le h] at hd; cases hd
theorem lturn_mark {n b k o d mk : Nat} {full r : List Dt} {x : Dt} {p : List Nat} {e0 : D} {a9 a10 : Option D} {M : Mem} (hx : isM x = true) (hd : full.drop k = x :: r) (hp : p.length < 1000) :
    evSs (callN fns (n + 2)) lawBody (lenv full e0 b p o d (some (.int (mk : Int))) (some (.int (k : Int))) a9 a10) M =
      if (k == b || decide (0 < mk)) = true then .rt (pth (p ++ [k])) M else .nx (lenv full e0 b p o d (some (.int ((mk + 1 : Nat) : Int))) (some (.int (k : Int))) a9 a10) M := by
  obtain ⟨g0, _, _⟩ := drop_get hd
  have e : callN fns (n + 2) 23 [emb x] M = .ok (.bl (isM x)) M := e_law_is_mark (n + 1) x M
  rw [hx] at e
  by_cases hk : k = b
  · have hk' : ((k : Int) == (b : Int)) = true := by simp [hk]
    simp [lawBody, lenv, idx_nat, embs_get, g0, e, hk', hp]
    simp [hk]
  · have hk' : ((k : Int) == (b : Int)) = false := by simp; omega
    by_cases hm : 0 < mk
    · have hm' : (1 : Int) < (mk : Int) + 1 := by omega
      simp [lawBody, lenv, idx_nat, embs_get, g0, e, hk', hp, hk, hm, hm']
    · have hm' : ¬ ((1 : Int) < (mk : Int) + 1) := by omega
      simp [lawBody, lenv, idx_nat, embs_get, g0, e, hk', hp, hk, hm, hm']
theorem lnext {n b k o d : Nat} {full r : List Dt} {x : Dt} {p : List Nat} {e0 : D} {a7 a9 a10 : Option D} {M : Mem} (hd : full.drop k = x :: r) :
    ev (callN fns (n + 2)) (.ite (.and (.cmp .lt (.bin .add (.v 8) (.k (.int 1))) (.bi .len [(.v 6)])) (.call 23 [(.ix (.v 6) (.bin .add (.v 8) (.k (.int 1))))])) (.k (.int 1)) (.k (.int 0))) (lenv full e0 b p o d a7 (some (.int (k : Int))) a9 a10) M = .ok (.int (headM r : Int)) M := by
  obtain ⟨_, g1, hl⟩ := drop_get hd
  cases r with
  | nil =>
    have : ¬ ((k : Int) + 1 < (full.length : Int)) := by simp at hl; omega
    simp [lenv, this, headM]
  | cons y r =>
    have hlt : ((k : Int) + 1 < (full.length : Int)) := by simp at hl; omega
    have g1 : full[k + 1]? = some y := by simpa using g1
    have e : callN fns (n + 2) 23 [emb y] M = .ok (.bl (isM y)) M := e_law_is_mark (n + 1) y M
    cases hy : isM y
    · rw [hy] at e
      simp [lenv, hlt, idx_succ, embs_get, g1, e, headM, hy]
    · rw [hy] at e
      simp [lenv, hlt, idx_succ, embs_get, g1, e, headM, hy]
theorem lturn_other {n b k o d mk : Nat} {full r : List Dt} {x : Dt} {p : List Nat} {e0 : D} {a9 a10 : Option D} {M M' : Mem} {res : Option (List Nat)} (hx : isM x = false) (hd : full.drop k = x :: r) (hp : p.length < 1000)
    (hc : callN fns (n + 2) 25 [emb x, pth (p ++ [k]), lit1, .obj o, .int ((d + headM r : Nat) : Int)] M = .ok (optD res) M') :
    evSs (callN fns (n + 2)) lawBody (lenv full e0 b p o d (some (.int (mk : Int))) (some (.int (k : Int))) a9 a10) M =
      res.elim (.nx (lenv full e0 b p o d (some (.int (mk : Int))) (some (.int (k : Int))) (some (.int (headM r : Int))) (some .non)) M') fun q => .rt (pth q) M' := by
  obtain ⟨g0, _, _⟩ := drop_get hd
  have e : callN fns (n + 2) 23 [emb x] M = .ok (.bl (isM x)) M := e_law_is_mark (n + 1) x M
  rw [hx] at e
  have nx := lnext (n := n) (b := b) (o := o) (d := d) (p := p) (e0 := e0) (a7 := some (.int (mk : Int))) (a9 := a9) (a10 := a10) (M := M) hd
  have hdd : ((d + headM r : Nat) : Int) = (d : Int) + (headM r : Int) := by omega
  rw [hdd] at hc
  have g : ev (callN fns (n + 2)) (.ix (.v 6) (.v 8)) (lenv full e0 b p o d (some (.int (mk : Int))) (some (.int (k : Int))) a9 a10) M = .ok (emb x) M := by simp [lenv, idx_nat, embs_get, g0]
  cases res with
  | none =>
    have hc : callN fns (n + 2) 25 [emb x, pth (p ++ [k]), lit1, .obj o, .int ((d : Int) + (headM r : Int))] M = .ok .non M' := hc
    simp only [lawBody, evSs_cons, evS_ite, ev_call, evs_cons, g, evs_nil, e, test_ok', truth_b, evS_set, nx]
    simp [lenv, idx_nat, embs_get, g0, hp, hc]
  | some q =>
    have hc : callN fns (n + 2) 25 [emb x, pth (p ++ [k]), lit1, .obj o, .int ((d : Int) + (headM r : Int))] M = .ok (pth q) M' := hc
    simp only [lawBody, evSs_cons, evS_ite, ev_call, evs_cons, g, evs_nil, e, test_ok', truth_b, evS_set, nx]
    simp [lenv, idx_nat, embs_get, g0, hp, hc]
    simp [pth]
end K96
set_option autoImplicit false
set_option linter.all false
set_option maxRecDepth 10000
namespace K96
open MP
theorem sm_0 : small62 0 = true := by decide +kernel
theorem sm_len (n : Nat) (h : n ≤ 1000) : small62 (n : Int) = true := by
  unfold small62
  rw [decide_eq_true_eq]
  have h1 : (1000 : Int) < 2 ^ 62 := by decide +kernel
  have h2 : -(2 ^ 62 : Int) ≤ 0 := by decide +kernel
  exact ⟨by omega, by omega⟩
def lawIt : St := .for (.v 8) (.range2 (.v 1) (.bi .len [(.v 6)])) lawBody
theorem evIt_range2 {cf : CF} {r : Env} {m : Mem} (a b : Ex) : evIt cf (.range2 a b) r m = match ev cf a r m with
    | .ok (.int i) m1 => (match ev cf b r m1 with
      | .ok (.int j) m2 => if small62 i && small62 j then .ok (.vals (intRange i j)) m2 else .stop
      | _ => .stop)
    | _ => .stop := rfl
theorem lawIt_for (n2 : Nat) (l : List Dt) (e0 : D) (p : List Nat) (o d b : Nat) (M : Mem) (hl : l.length ≤ 1000) (hb : b ≤ l.length) : evS (callN fns (n2 + 2)) lawIt (lenv l e0 b p o d (some (.int 0)) none none none) M =
    forL (.v 8) (fun r m => evSs (callN fns (n2 + 2)) lawBody r m) (rangeFrom b (l.length - b)) (lenv l e0 b p o d (some (.int 0)) none none none) M := by
  have hr := range_nat (l.length - b) b
  rw [show b + (l.length - b) = l.length from by omega] at hr
  have h1 := sm_len l.length hl
  have h2 := sm_len b (by omega)
  have hi : evIt (callN fns (n2 + 2)) (.range2 (.v 1) (.bi .len [(.v 6)])) (lenv l e0 b p o d (some (.int 0)) none none none) M = .ok (.vals (rangeFrom b (l.length - b))) M := by
    rw [evIt_range2, ← hr]
    simp [lenv, h1, h2]
  unfold lawIt
  rw [evS_for, hi]
end K96
set_option autoImplicit false
set_option linter.all false
set_option maxRecDepth 10000
namespace K96
open MP
/-- a row from its b-th item on -/
def pR (nm : NM) (l : List Dt) (t : Dt) (b : Nat) (p : List Nat) (d : Nat) : Option (List Nat) × NM := match pI nm (l.drop b) b true false p d with
  | (some q, nm') => (some q, nm')
  | (none, nm') => pF nm' t (p ++ [l.length]) d
theorem pR_0 (nm : NM) (l : List Dt) (t : Dt) (p : List Nat) (d : Nat) : pR nm l t 0 p d = pF nm (.lst l t) p d := rfl
def LEnd (M : Mem) (o : Nat) (res : Option (List Nat) × NM) (env : Option D → Option D → Option D → Option D → Env) (out : O) : Prop := match res with
  | (some q, nm') => out = .rt (pth q) (outNm M o nm')
  | (none, nm') => ∃ x7 x8 x9 x10, out = .nx (env x7 x8 x9 x10) (outNm M o nm')
theorem tgt8 (full : List Dt) (e0 : D) (b : Nat) (p : List Nat) (o d k : Nat) (e7 e8 e9 e10 : Option D) : tgt (.v 8) (.int (k : Int)) (lenv full e0 b p o d e7 e8 e9 e10) = some (lenv full e0 b p o d e7 (some (.int (k : Int))) e9 e10) := rfl
theorem lp_row {n : Nat} {X P L O Dd : D} {M : Mem} {R : R D} (il : callN fns (n + 1) 21 [X] M = .ok (.bl true) M) (hr : callN fns (n + 1) 26 [X, .int 0, P, L, O, Dd] M = R) : callN fns (n + 2) 25 [X, P, L, O, Dd] M = R := by
  rw [call__law_p_fault]
  simp [c__law_p_fault, il, hr]
  cases R <;> rfl
theorem p_items_code : c__law_p_items = [.par [6, 7] [(.ix (.v 0) (.k (.int 1))), (.k (.int 0))], lawIt, .ret (.call 25 [(.ix (.v 0) (.k (.int 2))), (.bin .add (.v 2) (.tup [(.bi .len [(.v 6)])])), (.v 3), (.v 4), (.v 5)])] := rfl
theorem lp_items_rt {n : Nat} {items : List D} {tail b P L O Dd q x : D} {M M' : Mem} (h : evS (callN fns n) lawIt [some (.tup [x, .tup items, tail]), some b, some P, some L, some O, some Dd, some (.tup items), some (.int 0), none, none, none] M = .rt q M') :
    callN fns (n + 1) 26 [.tup [x, .tup items, tail], b, P, L, O, Dd] M = .ok q M' := by
  rw [call__law_p_items]
  simp [p_items_code, h]
theorem lp_items_nx {n : Nat} {items : List D} {tail b P P' L O Dd x : D} {M M' : Mem} {x7 x8 x9 x10 : Option D} {R : R D} (h : evS (callN fns n) lawIt [some (.tup [x, .tup items, tail]), some b, some P, some L, some O, some Dd, some (.tup items), some (.int 0), none, none, none] M = .nx [some (.tup [x, .tup items, tail]), some b, some P, some L, some O, some Dd, some (.tup items), x7, x8, x9, x10] M')
    (hp : binD .add P (.tup [.int items.length]) M' = .ok P' M') (hc : callN fns n 25 [tail, P', L, O, Dd] M' = R) :
    callN fns (n + 1) 26 [.tup [x, .tup items, tail], b, P, L, O, Dd] M = R := by
  rw [call__law_p_items]
  simp [p_items_code, h, hp, hc]
  cases R <;> rfl
/-- from the loop to the row -/
theorem lp_items {n b : Nat} {l : List Dt} {t : Dt} {p : List Nat} {d o : Nat} {nm : NM} {M : Mem} (hl : l.length ≤ 1000) (hb : b ≤ l.length) (hp : p.length < 1000)
    (ht : ∀ nm' M', At M' o nm' → nm'.length ≤ nm.length + wns (l.drop b) → callN fns (n + 2) 25 [emb t, pth (p ++ [l.length]), lit1, .obj o, .int (d : Int)] M' = .ok (optD (pF nm' t (p ++ [l.length]) d).1) (outNm M' o (pF nm' t (p ++ [l.length]) d).2))
    (ha : At M o nm)
    (lp : LEnd M o (pI nm (l.drop b) b true false p d) (lenv l (emb (.lst l t)) b p o d) (forL (.v 8) (fun r m => evSs (callN fns (n + 2)) lawBody r m) (rangeFrom b (l.length - b)) (lenv l (emb (.lst l t)) b p o d (some (.int 0)) none none none) M)) :
    callN fns (n + 3) 26 [emb (.lst l t), .int (b : Int), pth p, lit1, .obj o, .int (d : Int)] M = .ok (optD (pR nm l t b p d).1) (outNm M o (pR nm l t b p d).2) := by
  rw [← lawIt_for n l (emb (.lst l t)) p o d b M hl hb] at lp
  have hlen := pI_len (l.drop b) nm b true false p d
  unfold pR
  cases e : pI nm (l.drop b) b true false p d with
  | mk a nm' =>
    rw [e] at lp hlen
    cases a with
    | some q => exact lp_items_rt lp
    | none =>
      obtain ⟨x7, x8, x9, x10, lp⟩ := lp
      simp only at hlen
      have h2 := ht nm' (outNm M o nm') (at_out ha nm') hlen
      rw [out_out] at h2
      exact lp_items_nx lp (by rw [embs_len]; exact pth_add _ _ _ hp) h2
mutual
theorem e_lF : ∀ (x : Dt) (n : Nat) (p : List Nat) (d o : Nat) (nm : NM) (M : Mem), 2 * dp x + 4 ≤ n → At M o nm → nm.length + wn x < 100000 → p.length + dp x < 999 → sm x = true →
    callN fns (n + 1) 25 [emb x, pth p, lit1, .obj o, .int (d : Int)] M = .ok (optD (pF nm x p d).1) (outNm M o (pF nm x p d).2)
  | .lst l t, n, p, d, o, nm, M, hn, ha, hw, hp, hs => by
    simp only [dp] at hn hp
    simp only [wn] at hw
    simp only [sm, Bool.and_eq_true, decide_eq_true_eq] at hs
    obtain ⟨n2, rfl⟩ : ∃ n2, n = n2 + 3 := ⟨n - 3, by omega⟩
    have lp := lrows l n2 l (emb (.lst l t)) 0 0 p d o nm M 0 none none none rfl (by omega) ha (by omega) (by omega) hs.1.2 (Nat.le_refl _)
    have hr := lp_items (n := n2) (b := 0) (l := l) (t := t) hs.1.1 (Nat.zero_le _) (p := p) (d := d) (o := o) (nm := nm) (M := M) (by omega) (fun nm' M' ha' hw' => e_lF t (n2 + 1) (p ++ [l.length]) d o nm' M' (by omega) ha' (by rw [List.drop_zero] at hw'; omega) (by simp; omega) hs.2) ha lp
    exact lp_row (e_law_is_list (n2 + 2) (.lst l t) M) hr
  | .wrd s, n, p, d, o, nm, M, hn, ha, hw, hp, _ => by
    obtain ⟨n2, rfl⟩ : ∃ n2, n = n2 + 1 := ⟨n - 1, by omega⟩
    simp only [wn] at hw
    have il := e_law_is_list n2 (.wrd s) M
    have iw := e_law_is_word n2 (.wrd s) M
    have hm := mem_nms ha s
    have hs : cmpD .nmem (.str s) lit1 M = .ok (.bl (!(s == s_lit))) M := nmem_lit s M
    have hset := fun hf => set_nms ha s d hf (by omega)
    simp only [emb, isL, isW] at il iw
    rw [call__law_p_fault]
    simp only [pF]
    cases h1 : s == s__
    · cases h2 : has nm s
      · have hset := hset h2
        rw [h2] at hm
        cases h3 : s == s_lit
        · rw [h3] at hs
          cases h4 : s == s___1
          · simp [c__law_p_fault, emb, il, iw, h1, hm, hs, h4, hset, optD, outNm]
          · simp [c__law_p_fault, emb, il, iw, h1, hm, hs, h4, optD, out_same ha]
        · rw [h3] at hs
          simp [c__law_p_fault, emb, il, iw, h1, hm, hs, optD, out_same ha]
      · rw [h2] at hm
        simp [c__law_p_fault, emb, il, iw, h1, hm, optD, out_same ha]
    · simp [c__law_p_fault, emb, il, iw, h1, optD, out_same ha]
  | .num i, n, p, d, o, nm, M, hn, ha, hw, hp, _ => by
    obtain ⟨n2, rfl⟩ : ∃ n2, n = n2 + 1 := ⟨n - 1, by omega⟩
    have il := e_law_is_list n2 (.num i) M
    have iw := e_law_is_word n2 (.num i) M
    simp only [emb, isL, isW] at il iw
    rw [call__law_p_fault]
    simp [c__law_p_fault, emb, il, iw, pF, optD, out_same ha]
  | .tru, n, p, d, o, nm, M, hn, ha, hw, hp, _ => by
    obtain ⟨n2, rfl⟩ : ∃ n2, n = n2 + 1 := ⟨n - 1, by omega⟩
    have il := e_law_is_list n2 .tru M
    have iw := e_law_is_word n2 .tru M
    simp only [emb, isL, isW] at il iw
    rw [call__law_p_fault]
    simp [c__law_p_fault, emb, il, iw, pF, optD, out_same ha]
  | .nil, n, p, d, o, nm, M, hn, ha, hw, hp, _ => by
    obtain ⟨n2, rfl⟩ : ∃ n2, n = n2 + 1 := ⟨n - 1, by omega⟩
    have il := e_law_is_list n2 .nil M
    have iw := e_law_is_word n2 .nil M
    simp only [emb, isL, isW] at il iw
    rw [call__law_p_fault]
    simp [c__law_p_fault, emb, il, iw, pF, optD, out_same ha]
theorem lrows : ∀ (suf : List Dt) (n : Nat) (full : List Dt) (e0 : D) (b k : Nat) (p : List Nat) (d o : Nat) (nm : NM) (M : Mem) (mk : Nat) (a8 a9 a10 : Option D), full.drop k = suf → 2 * dps suf + 3 ≤ n → At M o nm → nm.length + wns suf < 100000 → p.length + dps suf < 998 → sms suf = true → b ≤ k →
    LEnd M o (pI nm suf k (k == b) (decide (0 < mk)) p d) (lenv full e0 b p o d) (forL (.v 8) (fun r m => evSs (callN fns (n + 2)) lawBody r m) (rangeFrom k suf.length) (lenv full e0 b p o d (some (.int (mk : Int))) a8 a9 a10) M)
  | [], n, full, e0, b, k, p, d, o, nm, M, mk, a8, a9, a10, hd, hn, ha, hw, hp, hs, hbk => by
    simp only [pI, LEnd, List.length_nil, rangeFrom, forL]
    rw [out_same ha]
    exact ⟨_, _, _, _, rfl⟩
  | x :: r, n, full, e0, b, k, p, d, o, nm, M, mk, a8, a9, a10, hd, hn, ha, hw, hp, hs, hbk => by
    simp only [dps] at hn hp
    simp only [wns] at hw
    simp only [sms, Bool.and_eq_true] at hs
    have hd2 : full.drop (k + 1) = r := by
      rw [← List.drop_drop, hd]; rfl
    have hpl : p.length < 1000 := by omega
    simp only [List.length_cons, rangeFrom]
    rw [forL_cons (tgt8 _ _ _ _ _ _ _ _ _ _ _)]
    simp only [pI]
    cases hx : isM x
    · simp only [Bool.false_eq_true, if_false]
      have hc := e_lF x (n + 1) (p ++ [k]) (d + headM r) o nm M (by omega) ha (by omega) (by simp; omega) hs.1
      have hlen := pF_len x nm (p ++ [k]) (d + headM r)
      have ht := lturn_other (n := n) (b := b) (o := o) (d := d) (mk := mk) (e0 := e0) (a9 := a9) (a10 := a10) (M := M) hx hd hpl hc
      rw [ht]
      cases e : pF nm x (p ++ [k]) (d + headM r) with
      | mk a nm' =>
        rw [e] at hlen
        cases a with
        | some q => simp [LEnd]
        | none =>
          have ih := lrows r n full e0 b (k + 1) p d o nm' (outNm M o nm') mk (some (.int (k : Int))) (some (.int (headM r : Int))) (some .non) hd2 (by omega) (at_out ha nm') (by simp only at hlen; omega) (by omega) hs.2 (by omega)
          have hk : (k + 1 == b) = false := by simp; omega
          rw [hk] at ih
          simp only [Option.elim]
          unfold LEnd at ih ⊢
          simp only [out_out] at ih
          exact ih
    · simp only [if_true]
      have ht := lturn_mark (n := n) (b := b) (o := o) (d := d) (mk := mk) (e0 := e0) (a9 := a9) (a10 := a10) (M := M) hx hd hpl
      rw [ht]
      by_cases hz : (k == b || decide (0 < mk)) = true
      · rw [if_pos hz, if_pos hz]
        simp only [LEnd]
        rw [out_same ha]
      · rw [if_neg hz, if_neg hz]
        have ih := lrows r n full e0 b (k + 1) p d o nm M (mk + 1) (some (.int (k : Int))) a9 a10 hd2 (by omega) ha (by omega) (by omega) hs.2 (by omega)
        have hk : (k + 1 == b) = false := by simp; omega
        have hm : decide (0 < mk + 1) = true := by simp
        rw [hk, hm] at ih
        exact ih
end
end K96
set_option autoImplicit false
set_option linter.all false
set_option maxRecDepth 10000
namespace K96
open MP
theorem row_code : c_row_fault = [.set 4 (.k (.int 0)), rowIt, .ret (.call 7 [(.v 0), (.v 2), (.v 3)])] := rfl
theorem row_rt {n : Nat} {rule items tail Dd q : D} {M M' : Mem} (h : evS (callN fns n) rowIt [some rule, some items, some tail, some Dd, some (.int 0), none, none, none, none] M = .rt q M') : callN fns (n + 1) 8 [rule, items, tail, Dd] M = .ok q M' := by
  rw [call_row_fault]
  simp [row_code, h]
theorem row_nx {n : Nat} {rule items tail Dd : D} {M M' : Mem} {x4 x5 x6 x7 x8 : Option D} {R : R D} (h : evS (callN fns n) rowIt [some rule, some items, some tail, some Dd, some (.int 0), none, none, none, none] M = .nx [some rule, some items, some tail, some Dd, x4, x5, x6, x7, x8] M') (hc : callN fns n 7 [rule, tail, Dd] M' = R) :
    callN fns (n + 1) 8 [rule, items, tail, Dd] M = R := by
  rw [call_row_fault]
  simp [row_code, h, hc]
  cases R <;> rfl
theorem pF_tail (nm : NM) (t : Dt) (p : List Nat) (k d : Nat) : pF nm t (if isNil t then p else p ++ [k]) d = pF nm t (p ++ [k]) d := by
  cases t <;> simp [pF, isNil]
/-- a row of the package, from its b-th item on -/
theorem e_row {n b : Nat} {l : List Dt} {t : Dt} {p : List Nat} {d o : Nat} {nm : NM} {M : Mem} (hn : 2 * max (dps l) (dp t) + 3 ≤ n) (hb : b ≤ l.length) (ha : At M o nm) (hw : nm.length + wns (l.drop b) + wn t < 100000) (hds : dps (l.drop b) ≤ dps l) :
    callN fns (n + 3) 8 [rul o, .tup (nods (l.drop b) p b), nod t (if isNil t then p else p ++ [l.length]), .int (d : Int)] M = .ok (optD (pR nm l t b p d).1) (outNm M o (pR nm l t b p d).2) := by
  have lp := rows (l.drop b) n (l.drop b) b 0 p d o nm M (nod t (if isNil t then p else p ++ [l.length])) 0 none none none none rfl (by omega) ha (by omega)
  have hf : evS (callN fns (n + 2)) rowIt [some (rul o), some (.tup (nods (l.drop b) p b)), some (nod t (if isNil t then p else p ++ [l.length])), some (.int (d : Int)), some (.int 0), none, none, none, none] M = forL (.tup [5, 6]) (fun r m => evSs (callN fns (n + 2)) rowBody r m) (enumFrom 0 (nods (l.drop b) p b)) [some (rul o), some (.tup (nods (l.drop b) p b)), some (nod t (if isNil t then p else p ++ [l.length])), some (.int (d : Int)), some (.int 0), none, none, none, none] M := by
    unfold rowIt
    rw [evS_for]
    simp
  rw [show b + 0 = b from rfl, show ((0 : Nat) == 0) = true from rfl, show decide ((0 : Nat) < 0) = false from rfl, show ((0 : Nat) : Int) = 0 from rfl, ← hf] at lp
  have hlen := pI_len (l.drop b) nm b true false p d
  unfold pR
  cases e : pI nm (l.drop b) b true false p d with
  | mk a nm' =>
    rw [e] at lp hlen
    cases a with
    | some q => exact row_rt lp
    | none =>
      obtain ⟨x4, x5, x6, x7, x8, lp⟩ := lp
      simp only at hlen
      have h2 := e_pF t (n + 1) (if isNil t then p else p ++ [l.length]) d o nm' (outNm M o nm') (by omega) (at_out ha nm') (by omega)
      rw [pF_tail, out_out] at h2
      exact row_nx lp h2
/-- a whole pattern -/
def wF (nm : NM) : Dt → Option (List Nat) × NM
  | .lst l t => pR nm l t 1 [] 0
  | _ => (some [], nm)
theorem e_path_of {n : Nat} (x : Dt) (p : List Nat) (M : Mem) : callN fns (n + 1) 2 [nod x p] M = .ok (pth p) M := by
  rw [call_path_of]
  cases x <;> simp [c_path_of, nod]
theorem drop_dps (l : List Dt) : dps (l.drop 1) ≤ dps l := by
  cases l with
  | nil => simp
  | cons x r => simp [dps]; omega
theorem drop_wns (l : List Dt) : wns (l.drop 1) ≤ wns l := by
  cases l with
  | nil => simp
  | cons x r => simp [wns]
theorem drop_nods (l : List Dt) (p : List Nat) : (nods l p 0).drop 1 = nods (l.drop 1) p 1 := by
  cases l <;> rfl
theorem whole_row {n : Nat} {rule r tail P : D} {l : List D} {M : Mem} {R : R D} (hr : cmpD .ne r (.str s_row) M = .ok (.bl false) M) (hc : callN fns n 8 [rule, .tup (l.drop 1), tail, .int 0] M = R) : callN fns (n + 1) 9 [rule, .tup [r, .tup l, tail, P]] M = R := by
  have hs : slD (.tup l) (some 1) none M = .ok (.tup (l.drop 1)) M := by
    unfold slD cut
    simp only [loI, hiI, clampI]
    cases l with
    | nil => rfl
    | cons a r => simp [Nat.min_def]
  rw [call_whole_fault]
  simp [-List.drop_one, c_whole_fault, hr, boundOf, hs, hc]
  cases R <;> rfl
theorem e_whole {n o : Nat} {x : Dt} {nm : NM} {M : Mem} (hw : wf x = true) (hn : 2 * dp x + 1 ≤ n) (ha : At M o nm) (hwn : nm.length + wn x < 100000) : callN fns (n + 4) 9 [rul o, nod x []] M = .ok (optD (wF nm x).1) (outNm M o (wF nm x).2) := by
  have hp := e_path_of (n := n + 2) x [] M
  cases x with
  | lst l t =>
    simp only [dp] at hn
    simp only [wn] at hwn
    have h1 := drop_wns l
    simp only [wf, Bool.and_eq_true] at hw
    have hl : 1 ≤ l.length := by
      cases l with
      | nil => simp at hw
      | cons a r => simp
    have hr := e_row (n := n) (b := 1) (l := l) (t := t) (p := []) (d := 0) (o := o) (nm := nm) (M := M) (by omega) hl ha (by omega) (drop_dps l)
    rw [← drop_nods] at hr
    exact whole_row (by simp) hr
  | wrd s =>
    rw [call_whole_fault]
    simp only [nod] at hp ⊢
    simp [c_whole_fault, hp, wF, optD, out_same ha]
  | num s =>
    rw [call_whole_fault]
    simp only [nod] at hp ⊢
    simp [c_whole_fault, hp, wF, optD, out_same ha]
  | tru =>
    rw [call_whole_fault]
    simp only [nod] at hp ⊢
    simp [c_whole_fault, hp, wF, optD, out_same ha]
  | nil =>
    rw [call_whole_fault]
    simp only [nod] at hp ⊢
    simp [c_whole_fault, hp, wF, optD, out_same ha]
/-- the law's own walk of a whole pattern -/
theorem e_lwhole {n o : Nat} {l : List Dt} {t : Dt} {nm : NM} {M : Mem} (hw : wf (.lst l t) = true) (hs : sm (.lst l t) = true) (hn : 2 * dp (.lst l t) + 3 ≤ n) (hd : dp (.lst l t) < 900) (ha : At M o nm) (hwn : nm.length + wn (.lst l t) < 100000) :
    callN fns (n + 3) 26 [emb (.lst l t), .int 1, .tup [], lit1, .obj o, .int 0] M = .ok (optD (wF nm (.lst l t)).1) (outNm M o (wF nm (.lst l t)).2) := by
  simp only [dp] at hn hd
  simp only [wn] at hwn
  have h1 := drop_wns l
  have h2 := drop_dps l
  simp only [wf, Bool.and_eq_true] at hw
  simp only [sm, Bool.and_eq_true, decide_eq_true_eq] at hs
  have hl : 1 ≤ l.length := by
    cases l with
    | nil => simp at hw
    | cons a r => simp
  have hsm : sms (l.drop 1) = true := by
    cases l with
    | nil => rfl
    | cons a r =>
      have := hs.1.2
      simp only [sms, Bool.and_eq_true] at this
      exact this.2
  have lp := lrows (l.drop 1) n l (emb (.lst l t)) 1 1 [] 0 o nm M 0 none none none rfl (by omega) ha (by omega) (by rw [List.length_nil]; omega) hsm (Nat.le_refl _)
  rw [List.length_drop] at lp
  exact lp_items (n := n) (b := 1) (l := l) (t := t) hs.1.1 hl (p := []) (d := 0) (o := o) (nm := nm) (M := M) (by simp) (fun nm' M' ha' hw' => e_lF t (n + 1) ([] ++ [l.length]) 0 o nm' M' (by omega) ha' (by omega) (by simp; omega) hs.2) ha lp
end K96
set_option autoImplicit false
set_option linter.all false
set_option maxRecDepth 10000
namespace K96
open MP
mutual
theorem Dt.ind {P : Dt → Prop} (h1 : ∀ l t, (∀ x ∈ l, P x) → P t → P (.lst l t)) (h2 : ∀ s, P (.wrd s)) (h3 : ∀ i, P (.num i)) (h4 : P .tru) (h5 : P .nil) : ∀ x, P x
  | .lst l t => h1 l t (Dt.inds h1 h2 h3 h4 h5 l) (Dt.ind h1 h2 h3 h4 h5 t)
  | .wrd s => h2 s
  | .num i => h3 i
  | .tru => h4
  | .nil => h5
theorem Dt.inds {P : Dt → Prop} (h1 : ∀ l t, (∀ x ∈ l, P x) → P t → P (.lst l t)) (h2 : ∀ s, P (.wrd s)) (h3 : ∀ i, P (.num i)) (h4 : P .tru) (h5 : P .nil) : ∀ (l : List Dt) x, x ∈ l → P x
  | [], x, h => by cases h
  | a :: r, x, h => by
    rcases List.mem_cons.mp h with h | h
    · rw [h]; exact Dt.ind h1 h2 h3 h4 h5 a
    · exact Dt.inds h1 h2 h3 h4 h5 r x h
end
theorem mem_dps {l : List Dt} {x : Dt} (h : x ∈ l) : dp x ≤ dps l := by
  induction l with
  | nil => cases h
  | cons a r ih =>
    simp only [dps]
    rcases List.mem_cons.mp h with h | h
    · rw [h]; omega
    · have := ih h; omega
theorem mem_wns {l : List Dt} {x : Dt} (h : x ∈ l) : wn x ≤ wns l := by
  induction l with
  | nil => cases h
  | cons a r ih =>
    simp only [wns]
    rcases List.mem_cons.mp h with h | h
    · rw [h]; omega
    · have := ih h; omega
theorem wn_pos (x : Dt) : 1 ≤ wn x := by cases x <;> simp [wn]
theorem len_wns (l : List Dt) : l.length ≤ wns l := by
  induction l with
  | nil => simp
  | cons a r ih =>
    have := wn_pos a
    simp only [List.length_cons, wns]
    omega
/-! ### all words -/
mutual
def wds : Dt → List (List Nat)
  | .lst l t => wdss l ++ wds t
  | .wrd s => [s]
  | .num _ => []
  | .tru => []
  | .nil => []
def wdss : List Dt → List (List Nat)
  | [] => []
  | x :: r => wds x ++ wdss r
end
mutual
theorem wds_len : ∀ x : Dt, (wds x).length ≤ wn x
  | .lst l t => by
    have h1 := wdss_len l
    have h2 := wds_len t
    simp only [wds, wn, List.length_append]
    omega
  | .wrd s => by simp [wds, wn]
  | .num _ => by simp [wds, wn]
  | .tru => by simp [wds, wn]
  | .nil => by simp [wds, wn]
theorem wdss_len : ∀ l : List Dt, (wdss l).length ≤ wns l
  | [] => by simp [wdss, wns]
  | x :: r => by
    have h1 := wdss_len r
    have h2 := wds_len x
    simp only [wdss, wns, List.length_append]
    omega
end
def strL (l : List (List Nat)) : D := .lst (l.map D.str)
@[simp] theorem add_strs (a b : List (List Nat)) (m : Mem) (h : a.length + b.length < 1000000) : binD .add (strL a) (strL b) m = .ok (strL (a ++ b)) m := by
  have h2 : a.length + b.length ≤ 16777216 := by omega
  unfold strL binD
  simp [itemsOf, h2]
def wBody : List St := [.set 1 (.bin .add (.v 1) (.call 24 [(.v 2)]))]
def wIt : St := .for (.v 2) (.seq (.bin .add (.ix (.v 0) (.k (.int 1))) (.tup [(.ix (.v 0) (.k (.int 2)))]))) wBody
theorem words_code : c__law_words_in = [.ite (.call 21 [(.v 0)]) [.set 1 (.lst false []), wIt, .ret (.v 1)] [], .ret (.ite (.call 22 [(.v 0)]) (.lst false [(.ix (.v 0) (.k (.int 1)))]) (.lst false []))] := rfl
theorem evIt_seq {cf : CF} {r : Env} {m : Mem} (e : Ex) : evIt cf (.seq e) r m = match ev cf e r m with
    | .ok d m1 => seqOf d m1
    | .stop => .stop := rfl
theorem words_loop {n : Nat} {M : Mem} {X : D} : ∀ (l : List Dt) (acc : List (List Nat)) (a2 : Option D), (∀ x ∈ l, callN fns n 24 [emb x] M = .ok (strL (wds x)) M) → acc.length + wns l < 1000000 →
    ∃ x2, forL (.v 2) (fun r m => evSs (callN fns n) wBody r m) (embs l) [some X, some (strL acc), a2] M = .nx [some X, some (strL (acc ++ wdss l)), x2] M
  | [], acc, a2, _, _ => ⟨a2, by simp [embs, forL, wdss]⟩
  | x :: r, acc, a2, h, hl => by
    simp only [wns] at hl
    have h1 := h x (List.mem_cons_self ..)
    have hx := wds_len x
    obtain ⟨x2, ih⟩ := words_loop (X := X) r (acc ++ wds x) (some (emb x)) (fun y hy => h y (List.mem_cons_of_mem _ hy)) (by rw [List.length_append]; omega)
    refine ⟨x2, ?_⟩
    have ha := add_strs acc (wds x) M (by omega)
    have hb : evSs (callN fns n) wBody [some X, some (strL acc), some (emb x)] M = .nx [some X, some (strL (acc ++ wds x)), some (emb x)] M := by
      simp [wBody, h1, ha]
    rw [embs, forL_cons (r1 := [some X, some (strL acc), some (emb x)]) rfl, hb, wdss, ← List.append_assoc]
    exact ih
theorem lw_row {n : Nat} {M : Mem} {X : D} {l : List D} {ws : List (List Nat)} {x2 : Option D} (il : callN fns n 21 [X] M = .ok (.bl true) M) (hi : evIt (callN fns n) (.seq (.bin .add (.ix (.v 0) (.k (.int 1))) (.tup [(.ix (.v 0) (.k (.int 2)))]))) [some X, some (strL []), none] M = .ok (.vals l) M)
    (hf : forL (.v 2) (fun r m => evSs (callN fns n) wBody r m) l [some X, some (strL []), none] M = .nx [some X, some (strL ws), x2] M) : callN fns (n + 1) 24 [X] M = .ok (strL ws) M := by
  have hs : evS (callN fns n) wIt [some X, some (.lst []), none] M = .nx [some X, some (strL ws), x2] M := by
    unfold wIt
    rw [evS_for]
    have hi' : evIt (callN fns n) (.seq (.bin .add (.ix (.v 0) (.k (.int 1))) (.tup [(.ix (.v 0) (.k (.int 2)))]))) [some X, some (.lst []), none] M = .ok (.vals l) M := hi
    rw [hi']
    exact hf
  rw [call__law_words_in]
  simp [words_code, il, hs]
theorem e_lW : ∀ (x : Dt) (n : Nat) (M : Mem), dp x + 1 ≤ n → wn x < 100000 → callN fns (n + 1) 24 [emb x] M = .ok (strL (wds x)) M := by
  intro x
  induction x using Dt.ind with
  | h1 l t hl ht =>
    intro n M hn hw
    simp only [dp] at hn
    simp only [wn] at hw
    obtain ⟨n2, rfl⟩ : ∃ n2, n = n2 + 1 := ⟨n - 1, by omega⟩
    have hall : ∀ x ∈ l ++ [t], callN fns (n2 + 1) 24 [emb x] M = .ok (strL (wds x)) M := by
      intro x hx
      rcases List.mem_append.mp hx with h | h
      · have h1 := mem_dps h
        have h2 := mem_wns h
        exact hl x h n2 M (by omega) (by omega)
      · rw [List.mem_singleton.mp h]
        exact ht n2 M (by omega) (by omega)
    have app : ∀ a b : List Dt, wns (a ++ b) = wns a + wns b := by
      intro a b
      induction a with
      | nil => simp [wns]
      | cons c r ih => simp only [List.cons_append, wns, ih]; omega
    have app2 : ∀ a b : List Dt, wdss (a ++ b) = wdss a ++ wdss b := by
      intro a b
      induction a with
      | nil => simp [wdss]
      | cons c r ih => simp only [List.cons_append, wdss, ih, List.append_assoc]
    have app3 : ∀ a b : List Dt, embs (a ++ b) = embs a ++ embs b := by
      intro a b
      induction a with
      | nil => simp [embs]
      | cons c r ih => simp only [List.cons_append, embs, ih]
    obtain ⟨x2, hf⟩ := words_loop (X := emb (.lst l t)) (l ++ [t]) [] none hall (by rw [app]; simp [wns]; omega)
    rw [List.nil_append, app2, app3] at hf
    have hwd : wdss l ++ wdss [t] = wds (.lst l t) := by simp [wdss, wds]
    rw [hwd] at hf
    refine lw_row (l := embs l ++ embs [t]) (e_law_is_list n2 (.lst l t) M) ?_ hf
    have hlen := len_wns l
    have h1 : l.length + 1 ≤ 16777216 := by omega
    rw [evIt_seq]
    simp [emb, embs, binD, h1, seqOf]
  | h2 s =>
    intro n M hn hw
    obtain ⟨n2, rfl⟩ : ∃ n2, n = n2 + 1 := ⟨n - 1, by omega⟩
    have il := e_law_is_list n2 (.wrd s) M
    have iw := e_law_is_word n2 (.wrd s) M
    simp only [emb, isL, isW] at il iw
    rw [call__law_words_in]
    simp [words_code, emb, il, iw, wds, strL]
  | h3 i =>
    intro n M hn hw
    obtain ⟨n2, rfl⟩ : ∃ n2, n = n2 + 1 := ⟨n - 1, by omega⟩
    have il := e_law_is_list n2 (.num i) M
    have iw := e_law_is_word n2 (.num i) M
    simp only [emb, isL, isW] at il iw
    rw [call__law_words_in]
    simp [words_code, emb, il, iw, wds, strL]
  | h4 =>
    intro n M hn hw
    obtain ⟨n2, rfl⟩ : ∃ n2, n = n2 + 1 := ⟨n - 1, by omega⟩
    have il := e_law_is_list n2 .tru M
    have iw := e_law_is_word n2 .tru M
    simp only [emb, isL, isW] at il iw
    rw [call__law_words_in]
    simp [words_code, emb, il, iw, wds, strL]
  | h5 =>
    intro n M hn hw
    obtain ⟨n2, rfl⟩ : ∃ n2, n = n2 + 1 := ⟨n - 1, by omega⟩
    have il := e_law_is_list n2 .nil M
    have iw := e_law_is_word n2 .nil M
    simp only [emb, isL, isW] at il iw
    rw [call__law_words_in]
    simp [words_code, emb, il, iw, wds, strL]
/-! ### the mirror of a template's faults -/
def hasN (nm : NM) (x : Dt) : Bool := (wds x).any (has nm)
mutual
def tF (nm : NM) : Dt → List Nat → Nat → Bool → Option (List Nat)
  | .wrd s, p, d, b => match dOf nm s with
    | some e => if e == d then none else some p
    | none => if !b && s == s__ then some p else none
  | .lst l t, p, d, b =>
    if !b && (l.length == 2 && (headM l == 1 && isNil t)) then tS nm l p d
    else match tI nm l 0 true p d b with
      | some q => some q
      | none => tF nm t (p ++ [l.length]) d b
  | .num _, _, _, _ => none
  | .tru, _, _, _ => none
  | .nil, _, _, _ => none
def tS (nm : NM) : List Dt → List Nat → Nat → Option (List Nat)
  | [], _, _ => none
  | _ :: r, p, d => tS1 nm r p d
def tS1 (nm : NM) : List Dt → List Nat → Nat → Option (List Nat)
  | [], _, _ => none
  | y :: _, p, d => tF nm y (p ++ [1]) d true
def tI (nm : NM) : List Dt → Nat → Bool → List Nat → Nat → Bool → Option (List Nat)
  | [], _, _, _, _, _ => none
  | x :: r, k, pm, p, d, b =>
    if !b && isM x then (if pm then some (p ++ [k]) else tI nm r (k + 1) true p d b)
    else if (!b && headM r == 1) && !hasN nm x then some (p ++ [k])
    else match tF nm x (p ++ [k]) (d + (if !b && headM r == 1 then 1 else 0)) b with
      | some q => some q
      | none => tI nm r (k + 1) false p d b
end
end K96
set_option autoImplicit false
set_option linter.all false
set_option maxRecDepth 10000
namespace K96
open MP
def tBody : List St := [
    .ite (.and (.not (.v 4)) (.call 23 [(.v 7)])) [
      .ite (.or (.cmp .eq (.v 6) (.k (.int 0))) (.call 23 [(.ix (.v 5) (.bin .sub (.v 6) (.k (.int 1))))])) [
        .ret (.bin .add (.v 1) (.tup [(.v 6)]))] [],
      .cont] [],
    .set 8 (.ite (.and (.not (.v 4)) (.and (.cmp .lt (.bin .add (.v 6) (.k (.int 1))) (.bi .len [(.v 5)])) (.call 23 [(.ix (.v 5) (.bin .add (.v 6) (.k (.int 1))))]))) (.k (.int 1)) (.k (.int 0))),
    .ite (.and (.cmp .eq (.v 8) (.k (.int 1))) (.cmp .eq (.comp false [10] (.v 10) (.seq (.call 24 [(.v 7)])) [(.cmp .mem (.v 10) (.v 2))] (.v 10)) (.lst false []))) [
      .ret (.bin .add (.v 1) (.tup [(.v 6)]))] [],
    .set 9 (.call 27 [(.v 7), (.bin .add (.v 1) (.tup [(.v 6)])), (.v 2), (.bin .add (.v 3) (.v 8)), (.v 4)]),
    .ite (.notN (.v 9)) [
      .ret (.v 9)] []]
def tIt : St := .for (.tup [6, 7]) (.enum (.v 5)) tBody
def tAsIt : St := .ite (.and (.not (.v 4)) (.and (.cmp .eq (.bi .len [(.v 5)]) (.k (.int 2))) (.and (.call 23 [(.ix (.v 5) (.k (.int 0)))]) (.reprNil false (.ix (.v 0) (.k (.int 2))))))) [
    .ret (.call 27 [(.ix (.v 5) (.k (.int 1))), (.bin .add (.v 1) (.tup [(.k (.int 1))])), (.v 2), (.v 3), (.k (.bl true))])] []
def tRet : St := .ret (.call 27 [(.ix (.v 0) (.k (.int 2))), (.bin .add (.v 1) (.tup [(.bi .len [(.v 5)])])), (.v 2), (.v 3), (.v 4)])
theorem t_code : c__law_t_fault = [
  .ite (.call 22 [(.v 0)]) [
    .ite (.cmp .mem (.ix (.v 0) (.k (.int 1))) (.v 2)) [
      .ret (.ite (.cmp .eq (.ix (.v 2) (.ix (.v 0) (.k (.int 1)))) (.v 3)) (.k .non) (.v 1))] [],
    .ret (.ite (.and (.not (.v 4)) (.call 23 [(.v 0)])) (.v 1) (.k .non))] [],
  .ite (.not (.call 21 [(.v 0)])) [
    .ret (.k .non)] [],
  .set 5 (.ix (.v 0) (.k (.int 1))), tAsIt, tIt, tRet] := rfl
def tenv (full : List Dt) (X : D) (p : List Nat) (o d : Nat) (b : Bool) (e6 e7 e8 e9 e10 : Option D) : Env := [some X, some (pth p), some (.obj o), some (.int (d : Int)), some (.bl b), some (.tup (embs full)), e6, e7, e8, e9, e10]
/-- what stands ahead of the k-th item -/
def Prev (full : List Dt) (k : Nat) (pm : Bool) : Prop := (k = 0 ∧ pm = true) ∨ ∃ j y, k = j + 1 ∧ full[j]? = some y ∧ isM y = pm
theorem idx_pred (l : List D) (k : Nat) : idx? l ((k : Int) + 1 - 1) = l[k]? := by
  rw [show ((k : Int) + 1 - 1) = (k : Int) from by omega, idx_nat]
theorem t_prev {n k o d : Nat} {full : List Dt} {p : List Nat} {X : D} {b pm : Bool} {e7 e8 e9 e10 : Option D} {M : Mem} (h : Prev full k pm) :
    ev (callN fns (n + 1)) (.or (.cmp .eq (.v 6) (.k (.int 0))) (.call 23 [(.ix (.v 5) (.bin .sub (.v 6) (.k (.int 1))))])) (tenv full X p o d b (some (.int (k : Int))) e7 e8 e9 e10) M = .ok (.bl pm) M := by
  rcases h with ⟨rfl, rfl⟩ | ⟨j, y, rfl, hg, hm⟩
  · simp [tenv]
  · have h0 : (((j + 1 : Nat) : Int) == 0) = false := by simp; omega
    have h1 : (((j : Int) + 1) == 0) = false := by simp; omega
    have e := e_law_is_mark n y M
    rw [hm] at e
    simp [tenv, h1, idx_nat, embs_get, hg, e]
theorem t_mark {n k o d : Nat} {full r : List Dt} {x : Dt} {p : List Nat} {X : D} {pm : Bool} {e8 e9 e10 : Option D} {M : Mem} (hx : isM x = true) (hp : p.length < 1000) (h : Prev full k pm) :
    evSs (callN fns (n + 1)) tBody (tenv full X p o d false (some (.int (k : Int))) (some (emb x)) e8 e9 e10) M =
      if pm = true then .rt (pth (p ++ [k])) M else .ct (tenv full X p o d false (some (.int (k : Int))) (some (emb x)) e8 e9 e10) M := by
  have e := e_law_is_mark n x M
  rw [hx] at e
  have hpv := t_prev (n := n) (o := o) (d := d) (p := p) (X := X) (b := false) (e7 := some (emb x)) (e8 := e8) (e9 := e9) (e10 := e10) (M := M) h
  have h1 : ev (callN fns (n + 1)) (.and (.not (.v 4)) (.call 23 [(.v 7)])) (tenv full X p o d false (some (.int (k : Int))) (some (emb x)) e8 e9 e10) M = .ok (.bl true) M := by simp [tenv, e]
  simp only [tBody, evSs_cons, evS_ite, h1, test_ok', truth_b, hpv]
  cases pm
  · simp
  · simp [tenv, hp]
theorem t_next {n k o d : Nat} {full r : List Dt} {x : Dt} {p : List Nat} {X : D} {b : Bool} {e7 e8 e9 e10 : Option D} {M : Mem} (hd : full.drop k = x :: r) :
    ev (callN fns (n + 1)) (.ite (.and (.not (.v 4)) (.and (.cmp .lt (.bin .add (.v 6) (.k (.int 1))) (.bi .len [(.v 5)])) (.call 23 [(.ix (.v 5) (.bin .add (.v 6) (.k (.int 1))))]))) (.k (.int 1)) (.k (.int 0))) (tenv full X p o d b (some (.int (k : Int))) e7 e8 e9 e10) M = .ok (.int (if !b && headM r == 1 then 1 else 0)) M := by
  obtain ⟨_, g1, hl⟩ := drop_get hd
  cases b
  · cases r with
    | nil =>
      have : ¬ ((k : Int) + 1 < (full.length : Int)) := by simp at hl; omega
      simp [tenv, this, headM]
    | cons y r =>
      have hlt : ((k : Int) + 1 < (full.length : Int)) := by simp at hl; omega
      have g1 : full[k + 1]? = some y := by simpa using g1
      have e : callN fns (n + 1) 23 [emb y] M = .ok (.bl (isM y)) M := e_law_is_mark n y M
      cases hy : isM y
      · rw [hy] at e
        simp [tenv, hlt, idx_succ, embs_get, g1, e, headM, hy]
      · rw [hy] at e
        simp [tenv, hlt, idx_succ, embs_get, g1, e, headM, hy]
  · simp [tenv]
/-- a comprehension that keeps what a test says -/
theorem compL_filter {t : Tg} {rw : Env} {ok : Env → Mem → R Bool} {f : Env → Mem → R D} {m : Mem} {P : D → Bool} : ∀ (l acc : List D), (∀ d ∈ l, ∃ r1, tgt t d rw = some r1 ∧ ok r1 m = .ok (P d) m ∧ f r1 m = .ok d m) → acc.length + l.length ≤ line → compL t rw ok f l acc m = .ok (acc ++ l.filter P) m
  | [], acc, _, _ => by simp [compL]
  | d :: l, acc, h, hl => by
    obtain ⟨r1, h1, h2, h3⟩ := h d (List.mem_cons_self ..)
    simp only [List.length_cons] at hl
    have ht : ∀ x ∈ l, _ := fun x hx => h x (List.mem_cons_of_mem _ hx)
    show (match tgt t d rw with
      | none => R.stop
      | some r1 => match ok r1 m with
        | .stop => .stop
        | .ok false m1 => compL t rw ok f l acc m1
        | .ok true m1 => match f r1 m1 with
          | .stop => .stop
          | .ok x m2 => if acc.length < line then compL t rw ok f l (acc ++ [x]) m2 else .stop) = _
    rw [h1]
    simp only
    rw [h2]
    cases hP : P d
    · simp only
      rw [compL_filter l acc ht (Nat.le_trans (by omega) hl)]
      simp [hP]
    · simp only
      rw [h3]
      simp only
      rw [if_pos (Nat.lt_of_lt_of_le (by omega) hl), compL_filter l (acc ++ [d]) ht (Nat.le_trans (by simp only [List.length_append, List.length_cons, List.length_nil]; omega) hl)]
      simp [hP]
theorem pure_strs (l : List (List Nat)) : D.pureAll (l.map D.str) = true := by
  induction l with
  | nil => rfl
  | cons a r ih => simp [ih]
theorem eq_strs_nil (l : List (List Nat)) (m : Mem) : cmpD .eq (strL l) (.lst []) m = .ok (.bl l.isEmpty) m := by
  rw [cmp_eq_gen _ _ _ (by simp [strL, pure_strs]) rfl (Nat.le_trans (Nat.min_le_right _ _) (by decide))]
  cases l <;> rfl
theorem filter_strs (nm : NM) (l : List (List Nat)) : (l.map D.str).filter (fun d => match d with | .str s => has nm s | _ => false) = (l.filter (has nm)).map D.str := by
  induction l with
  | nil => rfl
  | cons a r ih =>
    simp only [List.map_cons, List.filter_cons, ih]
    cases has nm a <;> rfl
theorem filter_empty (nm : NM) (l : List (List Nat)) : (l.filter (has nm)).isEmpty = !l.any (has nm) := by
  induction l with
  | nil => rfl
  | cons a r ih =>
    simp only [List.filter_cons, List.any_cons]
    cases has nm a
    · simpa using ih
    · simp
theorem t_words {n o d : Nat} {full : List Dt} {x : Dt} {p : List Nat} {X : D} {b : Bool} {nm : NM} {e6 e8 e9 e10 : Option D} {M : Mem} (ha : At M o nm) (hw : callN fns n 24 [emb x] M = .ok (strL (wds x)) M) (hn : wn x < 1000000) :
    ev (callN fns n) (.cmp .eq (.comp false [10] (.v 10) (.seq (.call 24 [(.v 7)])) [(.cmp .mem (.v 10) (.v 2))] (.v 10)) (.lst false [])) (tenv full X p o d b e6 (some (emb x)) e8 e9 e10) M = .ok (.bl (!hasN nm x)) M := by
  have hl := wds_len x
  have hc : ev (callN fns n) (.comp false [10] (.v 10) (.seq (.call 24 [(.v 7)])) [(.cmp .mem (.v 10) (.v 2))] (.v 10)) (tenv full X p o d b e6 (some (emb x)) e8 e9 e10) M = .ok (strL ((wds x).filter (has nm))) M := by
    have hi : evIt (callN fns n) (.seq (.call 24 [(.v 7)])) (tenv full X p o d b e6 (some (emb x)) e8 e9 e10) M = .ok (.vals ((wds x).map D.str)) M := by
      rw [evIt_seq]
      simp [tenv, hw]
      rfl
    rw [ev_comp, hi]
    simp only
    rw [compL_filter (P := fun d => match d with | .str s => has nm s | _ => false) _ _ (fun z hz => ?_) (by simp [line]; omega)]
    · rw [filter_strs]
      rfl
    · obtain ⟨s, _, rfl⟩ := List.mem_map.mp hz
      refine ⟨tenv full X p o d b e6 (some (emb x)) e8 e9 (some (.str s)), rfl, ?_, rfl⟩
      have hm := mem_nms ha s
      show (match testOf (ev (callN fns n) (.cmp .mem (.v 10) (.v 2)) (tenv full X p o d b e6 (some (emb x)) e8 e9 (some (.str s))) M) with
        | .ok true m1 => evTests (callN fns n) [] _ m1
        | .ok false m1 => .ok false m1
        | .stop => R.stop) = _
      cases hh : has nm s
      · rw [hh] at hm
        simp [tenv, hm, hh]
      · rw [hh] at hm
        simp [tenv, hm, hh]
        rfl
  rw [ev_cmp, hc]
  simp only [ev_lst, evs_nil]
  rw [show okLen [] = true from rfl]
  simp only [if_true]
  rw [eq_strs_nil, filter_empty]
  rfl
end K96
set_option autoImplicit false
set_option linter.all false
set_option maxRecDepth 10000
namespace K96
open MP
/-! ### data as the law draws them -/
mutual
def gd (c : Nat) : Dt → Bool
  | .lst l t => !l.isEmpty && (decide (l.length ≤ c) && (gds c l && gd c t))
  | .wrd s => decide (s.length ≤ 40)
  | .num i => i == 5 || i == 7
  | .tru => true
  | .nil => true
def gds (c : Nat) : List Dt → Bool
  | [] => true
  | x :: r => gd c x && gds c r
end
mutual
theorem gd_wf (c : Nat) : ∀ x, gd c x = true → wf x = true
  | .lst l t, h => by
    simp only [gd, Bool.and_eq_true] at h
    simp only [wf, Bool.and_eq_true]
    exact ⟨⟨h.1, gds_wf c l h.2.2.1⟩, gd_wf c t h.2.2.2⟩
  | .wrd s, h => rfl
  | .num i, h => rfl
  | .tru, h => rfl
  | .nil, h => rfl
theorem gds_wf (c : Nat) : ∀ l, gds c l = true → wfs l = true
  | [], h => rfl
  | x :: r, h => by
    simp only [gds, Bool.and_eq_true] at h
    simp only [wfs, Bool.and_eq_true]
    exact ⟨gd_wf c x h.1, gds_wf c r h.2⟩
end
mutual
theorem gd_sm {c : Nat} (hc : c ≤ 1000) : ∀ x, gd c x = true → sm x = true
  | .lst l t, h => by
    simp only [gd, Bool.and_eq_true, decide_eq_true_eq] at h
    simp only [sm, Bool.and_eq_true, decide_eq_true_eq]
    exact ⟨⟨by omega, gds_sm hc l h.2.2.1⟩, gd_sm hc t h.2.2.2⟩
  | .wrd s, h => rfl
  | .num i, h => rfl
  | .tru, h => rfl
  | .nil, h => rfl
theorem gds_sm {c : Nat} (hc : c ≤ 1000) : ∀ l, gds c l = true → sms l = true
  | [], h => rfl
  | x :: r, h => by
    simp only [gds, Bool.and_eq_true] at h
    simp only [sms, Bool.and_eq_true]
    exact ⟨gd_sm hc x h.1, gds_sm hc r h.2⟩
end
theorem gds_mem {c : Nat} {l : List Dt} {x : Dt} (h : gds c l = true) (hx : x ∈ l) : gd c x = true := by
  induction l with
  | nil => cases hx
  | cons a r ih =>
    simp only [gds, Bool.and_eq_true] at h
    rcases List.mem_cons.mp hx with hx | hx
    · rw [hx]; exact h.1
    · exact ih h.2 hx
theorem gd_num {c : Nat} {i : Int} (h : gd c (.num i) = true) : i = 5 ∨ i = 7 := by
  simpa [gd] using h
mutual
theorem gd_wide (c : Nat) : ∀ x, gd c x = true → D.wide (emb x) + 2 ≤ 500 * wn x
  | .lst l t, h => by
    simp only [gd, Bool.and_eq_true] at h
    have h1 := gds_wide c l h.2.2.1
    have h2 := gd_wide c t h.2.2.2
    simp only [emb, D.wide, D.wideAll, wn, show s_list.length = 4 from rfl]
    omega
  | .wrd s, h => by
    simp only [gd, decide_eq_true_eq] at h
    simp only [emb, D.wide, D.wideAll, wn, show s_name.length = 4 from rfl]
    omega
  | .num i, h => by
    rcases gd_num h with rfl | rfl <;> decide
  | .tru, h => by decide
  | .nil, h => by decide
theorem gds_wide (c : Nat) : ∀ l, gds c l = true → D.wideAll (embs l) ≤ 500 * wns l
  | [], h => by simp [embs, D.wideAll, wns]
  | x :: r, h => by
    simp only [gds, Bool.and_eq_true] at h
    have h1 := gd_wide c x h.1
    have h2 := gds_wide c r h.2
    simp only [embs, D.wideAll, wns]
    omega
end
theorem gd_show {c : Nat} {x : Dt} (h : gd c x = true) (h1 : wn x ≤ 30000) (h2 : dp x ≤ 30) : showOk (emb x) = true := by
  have a := emb_depth x
  have b := gd_wide c x h
  have b2 : D.wide (emb x) ≤ 16777216 := by omega
  simp only [showOk, emb_pure, Bool.and_eq_true, decide_eq_true_eq, Bool.true_and]
  exact ⟨by omega, b2⟩
theorem nil_repr {c : Nat} {x : Dt} (h : gd c x = true) (h1 : wn x ≤ 30000) (h2 : dp x ≤ 30) (M : Mem) : reprNilD false (emb x) M = .ok (.bl (isNil x)) M := by
  have hs := gd_show h h1 h2
  unfold reprNilD
  rw [if_pos hs]
  cases x with
  | lst l t => rfl
  | wrd s => rfl
  | num i =>
    have e : (intText i == [40, 41]) = false := by
      rcases gd_num h with rfl | rfl <;> decide
    simp [emb, e, isNil]
  | tru => rfl
  | nil => rfl
/-! ### the law's template walk -/
theorem t_other {n k o d : Nat} {full r : List Dt} {x : Dt} {p : List Nat} {X : D} {b : Bool} {nm : NM} {e8 e9 e10 : Option D} {M : Mem} (hx : (!b && isM x) = false) (hd : full.drop k = x :: r) (hp : p.length < 1000) (ha : At M o nm)
    (hw : callN fns (n + 1) 24 [emb x] M = .ok (strL (wds x)) M) (hwn : wn x < 1000000)
    (hc : callN fns (n + 1) 27 [emb x, pth (p ++ [k]), .obj o, .int ((d + (if !b && headM r == 1 then 1 else 0) : Nat) : Int), .bl b] M = .ok (optD (tF nm x (p ++ [k]) (d + (if !b && headM r == 1 then 1 else 0)) b)) M) :
    evSs (callN fns (n + 1)) tBody (tenv full X p o d b (some (.int (k : Int))) (some (emb x)) e8 e9 e10) M =
      if ((!b && headM r == 1) && !hasN nm x) = true then .rt (pth (p ++ [k])) M else
      (tF nm x (p ++ [k]) (d + (if !b && headM r == 1 then 1 else 0)) b).elim (.nx (tenv full X p o d b (some (.int (k : Int))) (some (emb x)) (some (.int (if !b && headM r == 1 then 1 else 0))) (some .non) e10) M) fun q => .rt (pth q) M := by
  have e := e_law_is_mark n x M
  have h1 : ev (callN fns (n + 1)) (.and (.not (.v 4)) (.call 23 [(.v 7)])) (tenv full X p o d b (some (.int (k : Int))) (some (emb x)) e8 e9 e10) M = .ok (.bl false) M := by
    cases b
    · simp only [Bool.not_false, Bool.true_and] at hx
      rw [hx] at e
      simp [tenv, e]
    · simp [tenv]
  have h2 := t_next (n := n) (o := o) (d := d) (p := p) (X := X) (b := b) (e7 := some (emb x)) (e8 := e8) (e9 := e9) (e10 := e10) (M := M) hd
  generalize hmo : (!b && headM r == 1) = mo at *
  have h3 := t_words (n := n + 1) (o := o) (d := d) (full := full) (p := p) (X := X) (b := b) (e6 := some (.int (k : Int))) (e8 := some (.int (if mo = true then 1 else 0))) (e9 := e9) (e10 := e10) (M := M) ha hw hwn
  generalize hres : tF nm x (p ++ [k]) (d + (if mo = true then 1 else 0)) b = res at *
  have hset : (tenv full X p o d b (some (.int (k : Int))) (some (emb x)) e8 e9 e10).set 8 (some (.int (if mo = true then 1 else 0))) = tenv full X p o d b (some (.int (k : Int))) (some (emb x)) (some (.int (if mo = true then 1 else 0))) e9 e10 := rfl
  have hcmp : ev (callN fns (n + 1)) (.cmp .eq (.v 8) (.k (.int 1))) (tenv full X p o d b (some (.int (k : Int))) (some (emb x)) (some (.int (if mo = true then 1 else 0))) e9 e10) M = .ok (.bl mo) M := by
    cases mo <;> simp [tenv]
  simp only [tBody, evSs_cons, evS_ite, h1, test_ok', truth_b, evSs_nil, evS_set, h2, hset, ev_and, hcmp]
  cases mo with
  | true =>
    simp only [if_true] at h3 hres
    simp only [if_true, h3, truth_b, hres, test_ok']
    cases hh : hasN nm x
    · simp [tenv, hp]
    · cases res with
      | none =>
        have hc : callN fns (n + 1) 27 [emb x, pth (p ++ [k]), .obj o, .int ((d : Int) + 1), .bl b] M = .ok .non M := hc
        simp [tenv, hp, hc]
      | some q =>
        have hc : callN fns (n + 1) 27 [emb x, pth (p ++ [k]), .obj o, .int ((d : Int) + 1), .bl b] M = .ok (pth q) M := hc
        simp [tenv, hp, hc]
        simp [pth]
  | false =>
    cases res with
    | none =>
      have hc : callN fns (n + 1) 27 [emb x, pth (p ++ [k]), .obj o, .int (d : Int), .bl b] M = .ok .non M := hc
      simp [tenv, hp, hc]
    | some q =>
      have hc : callN fns (n + 1) 27 [emb x, pth (p ++ [k]), .obj o, .int (d : Int), .bl b] M = .ok (pth q) M := hc
      simp [tenv, hp, hc]
      simp [pth]
def TEnd (M : Mem) (res : Option (List Nat)) (env : Option D → Option D → Option D → Option D → Option D → Env) (out : O) : Prop := match res with
  | some q => out = .rt (pth q) M
  | none => ∃ x6 x7 x8 x9 x10, out = .nx (env x6 x7 x8 x9 x10) M
theorem tgt67 (full : List Dt) (x : Dt) (k : Nat) (X : D) (p : List Nat) (o d : Nat) (b : Bool) (e6 e7 e8 e9 e10 : Option D) : tgt (.tup [6, 7]) (.tup [.int (k : Int), emb x]) (tenv full X p o d b e6 e7 e8 e9 e10) = some (tenv full X p o d b (some (.int (k : Int))) (some (emb x)) e8 e9 e10) := rfl
theorem prev_next {full r : List Dt} {x : Dt} {k : Nat} (hd : full.drop k = x :: r) : Prev full (k + 1) (isM x) := .inr ⟨k, x, rfl, (drop_get hd).1, rfl⟩
theorem t_loop {n o d : Nat} {full : List Dt} {p : List Nat} {X : D} {b : Bool} {nm : NM} {M : Mem} (hp : p.length < 1000) (ha : At M o nm) : ∀ (suf : List Dt) (k : Nat) (pm : Bool) (e6 e7 e8 e9 e10 : Option D), full.drop k = suf → Prev full k pm →
    (∀ x ∈ suf, callN fns (n + 1) 24 [emb x] M = .ok (strL (wds x)) M ∧ wn x < 1000000 ∧ ∀ (k d : Nat), callN fns (n + 1) 27 [emb x, pth (p ++ [k]), .obj o, .int (d : Int), .bl b] M = .ok (optD (tF nm x (p ++ [k]) d b)) M) →
    TEnd M (tI nm suf k pm p d b) (tenv full X p o d b) (forL (.tup [6, 7]) (fun r m => evSs (callN fns (n + 1)) tBody r m) (enumFrom k (embs suf)) (tenv full X p o d b e6 e7 e8 e9 e10) M)
  | [], k, pm, e6, e7, e8, e9, e10, hd, hpm, h => by
    simp only [tI, TEnd, embs, enumFrom, forL]
    exact ⟨_, _, _, _, _, rfl⟩
  | x :: r, k, pm, e6, e7, e8, e9, e10, hd, hpm, h => by
    have hd2 : full.drop (k + 1) = r := by
      rw [← List.drop_drop, hd]; rfl
    have hr : ∀ x ∈ r, _ := fun y hy => h y (List.mem_cons_of_mem _ hy)
    obtain ⟨hw, hwn, hc⟩ := h x (List.mem_cons_self ..)
    have hpn := prev_next hd
    simp only [embs, enumFrom]
    rw [forL_cons (tgt67 _ _ _ _ _ _ _ _ _ _ _ _ _)]
    simp only [tI]
    cases hx : (!b && isM x)
    · rw [t_other hx hd hp ha hw hwn (hc k _)]
      simp only [Bool.false_eq_true, if_false]
      by_cases h2 : ((!b && headM r == 1) && !hasN nm x) = true
      · rw [if_pos h2, if_pos h2]
        rfl
      · rw [if_neg h2, if_neg h2]
        cases tF nm x (p ++ [k]) (d + (if !b && headM r == 1 then 1 else 0)) b with
        | some q => rfl
        | none =>
          cases b with
          | false =>
            simp only [Bool.not_false, Bool.true_and] at hx
            rw [hx] at hpn
            exact t_loop hp ha r (k + 1) false _ _ _ _ _ hd2 hpn hr
          | true =>
            -- where marks are words, what stands ahead is not asked
            have := t_loop (b := true) (d := d) (X := X) (full := full) hp ha r (k + 1) (isM x) (some (.int (k : Int))) (some (emb x)) (some (.int (if !true && headM r == 1 then 1 else 0))) (some .non) e10 hd2 hpn hr
            have hpm : ∀ (l : List Dt) (k : Nat) (a c : Bool), tI nm l k a p d true = tI nm l k c p d true := fun l k a c => by cases l <;> simp [tI]
            rw [hpm r (k + 1) (isM x) false] at this
            exact this
    · have hb : b = false := by cases b; rfl; simp at hx
      subst hb
      simp only [Bool.not_false, Bool.true_and] at hx
      rw [t_mark (r := r) hx hp hpm]
      simp only [if_true]
      cases pm
      · rw [hx] at hpn
        exact t_loop hp ha r (k + 1) true _ _ _ _ _ hd2 hpn hr
      · rfl

theorem enum_vals {cf : CF} {r : Env} {m : Mem} {i : Nat} {l : List D} (h : r[i]? = some (some (.tup l))) : evIt cf (.enum (.v i)) r m = .ok (.vals (enumFrom 0 l)) m := by
  simp [h]
theorem t_head {n : Nat} {X : D} {l : List D} {P O d : D} {t x : D} {b : Bool} {M : Mem} {R : R D} (hX : X = .tup [x, .tup l, t]) (il : callN fns n 21 [X] M = .ok (.bl true) M) (iw : callN fns n 22 [X] M = .ok (.bl false) M)
    (hc : (match evSs (callN fns n) [tAsIt, tIt, tRet] [some X, some P, some O, some d, some (.bl b), some (.tup l), none, none, none, none, none] M with
      | .nx _ m1 => .ok .non m1
      | .rt d m1 => .ok d m1
      | _ => .stop) = R) : callN fns (n + 1) 27 [X, P, O, d, .bl b] M = R := by
  rw [call__law_t_fault, ← hc]
  subst hX
  simp [t_code, il, iw]
  all_goals rfl
theorem t_asit {n o d : Nat} {l : List Dt} {t : Dt} {p : List Nat} {b : Bool} {e6 e7 e8 e9 e10 : Option D} {M : Mem} (hr : reprNilD false (emb t) M = .ok (.bl (isNil t)) M) :
    ev (callN fns (n + 1)) (.and (.not (.v 4)) (.and (.cmp .eq (.bi .len [(.v 5)]) (.k (.int 2))) (.and (.call 23 [(.ix (.v 5) (.k (.int 0)))]) (.reprNil false (.ix (.v 0) (.k (.int 2))))))) (tenv l (emb (.lst l t)) p o d b e6 e7 e8 e9 e10) M = .ok (.bl (!b && (l.length == 2 && (headM l == 1 && isNil t)))) M := by
  cases b with
  | true => simp [tenv]
  | false =>
    have h2 : (((l.length : Nat) : Int) == 2) = (l.length == 2) := by
      rw [Bool.eq_iff_iff]; simp; omega
    cases hl : l.length == 2
    · rw [hl] at h2
      simp [tenv, h2]
    · rw [hl] at h2
      cases l with
      | nil => cases hl
      | cons a r =>
        have e := e_law_is_mark n a M
        have h2 : (((r.length : Nat) : Int) + 1 == 2) = true := by simpa using h2
        cases ha : isM a
        · rw [ha] at e
          simp [tenv, h2, embs, e, headM, ha]
        · rw [ha] at e
          simp [tenv, h2, embs, emb, e, headM, ha, hr]
theorem e_ltF {o : Nat} {nm : NM} {M : Mem} (ha : At M o nm) : ∀ (x : Dt) (n : Nat) (p : List Nat) (d : Nat) (b : Bool), dp x + 3 ≤ n → wn x ≤ 30000 → dp x ≤ 30 → p.length + dp x < 900 → gd 1000 x = true →
    callN fns (n + 1) 27 [emb x, pth p, .obj o, .int (d : Int), .bl b] M = .ok (optD (tF nm x p d b)) M := by
  intro x
  induction x using Dt.ind with
  | h1 l t hl ht =>
    intro n p d b hn hw hdp hp hg
    have hg2 := hg
    simp only [gd, Bool.and_eq_true, decide_eq_true_eq] at hg2
    simp only [dp] at hn hdp hp
    simp only [wn] at hw
    obtain ⟨n2, rfl⟩ : ∃ n2, n = n2 + 2 := ⟨n - 2, by omega⟩
    have hitems : ∀ x ∈ l, callN fns (n2 + 2) 24 [emb x] M = .ok (strL (wds x)) M ∧ wn x < 1000000 ∧ ∀ (q : List Nat) (d : Nat) (b : Bool), q.length = p.length + 1 → callN fns (n2 + 2) 27 [emb x, pth q, .obj o, .int (d : Int), .bl b] M = .ok (optD (tF nm x q d b)) M := by
      intro x hx
      have h1 := mem_dps hx
      have h2 := mem_wns hx
      exact ⟨e_lW x (n2 + 1) M (by omega) (by omega), by omega, fun q d b hq => hl x hx (n2 + 1) q d b (by omega) (by omega) (by omega) (by omega) (gds_mem hg2.2.2.1 hx)⟩
    refine t_head (l := embs l) (t := emb t) (x := .str s_list) rfl (e_law_is_list (n2 + 1) (.lst l t) M) (e_law_is_word (n2 + 1) (.lst l t) M) ?_
    have hasit := t_asit (n := n2 + 1) (o := o) (d := d) (l := l) (t := t) (p := p) (b := b) (e6 := none) (e7 := none) (e8 := none) (e9 := none) (e10 := none) (M := M) (nil_repr (c := 1000) hg2.2.2.2 (by omega) (by omega) M)
    have hloop := t_loop (n := n2 + 1) (o := o) (d := d) (full := l) (p := p) (X := emb (.lst l t)) (b := b) (nm := nm) (M := M) (by omega) ha l 0 true none none none none none rfl (.inl ⟨rfl, rfl⟩) fun x hx => ⟨(hitems x hx).1, (hitems x hx).2.1, fun k d => (hitems x hx).2.2 _ d b (by simp)⟩
    have hfor : evS (callN fns (n2 + 2)) tIt (tenv l (emb (.lst l t)) p o d b none none none none none) M = forL (.tup [6, 7]) (fun r m => evSs (callN fns (n2 + 2)) tBody r m) (enumFrom 0 (embs l)) (tenv l (emb (.lst l t)) p o d b none none none none none) M := by
      unfold tIt
      rw [evS_for, enum_vals (l := embs l) rfl]
    rw [← hfor] at hloop
    show (match evSs (callN fns (n2 + 2)) [tAsIt, tIt, tRet] (tenv l (emb (.lst l t)) p o d b none none none none none) M with
      | .nx _ m1 => R.ok D.non m1
      | .rt d m1 => R.ok d m1
      | _ => R.stop) = R.ok (optD (tF nm (.lst l t) p d b)) M
    simp only [tF]
    cases has : (!b && (l.length == 2 && (headM l == 1 && isNil t)))
    · rw [has] at hasit
      simp only [evSs_cons, evSs_nil, tAsIt, evS_ite, hasit, test_ok', truth_b, Bool.false_eq_true, if_false]
      cases hti : tI nm l 0 true p d b with
      | some q =>
        rw [hti] at hloop
        have hloop : evS (callN fns (n2 + 2)) tIt _ M = .rt (pth q) M := hloop
        rw [hloop]
        rfl
      | none =>
        rw [hti] at hloop
        obtain ⟨x6, x7, x8, x9, x10, hloop⟩ := hloop
        rw [hloop]
        have h2 := ht (n2 + 1) (p ++ [l.length]) d b (by omega) (by omega) (by omega) (by simp; omega) hg2.2.2.2
        have hpl : p.length < 1000 := by omega
        simp [tRet, tenv, emb, hpl, h2]
    · rw [has] at hasit
      simp only [evSs_cons, evSs_nil, tAsIt, evS_ite, hasit, test_ok', truth_b, if_true]
      simp only [Bool.and_eq_true, beq_iff_eq] at has
      match l, has.2.1 with
      | [a, y], _ =>
        have h2 := (hitems y (by simp)).2.2 (p ++ [1]) d true (by simp)
        have hpl : p.length < 1000 := by omega
        have h1 := pth_add p 1 M hpl
        simp only [show ((1 : Nat) : Int) = 1 from rfl] at h1
        simp [tenv, embs, h1, h2, tS, tS1]
  | h2 s =>
    intro n p d b hn hw hdp hp hg
    obtain ⟨n2, rfl⟩ : ∃ n2, n = n2 + 1 := ⟨n - 1, by omega⟩
    have il := e_law_is_list n2 (.wrd s) M
    have iw := e_law_is_word n2 (.wrd s) M
    have im := e_law_is_mark n2 (.wrd s) M
    have hm := mem_nms ha s
    have hlk := look_nms nm s
    simp only [emb, isL, isW, isM] at il iw im
    have hix : ixD (.obj o) (.str s) M = match (dOf nm s) with | some (d : Nat) => .ok (D.int (d : Int)) M | none => .stop := by
      unfold ixD
      unfold At at ha
      simp only [ha]
      have : isKey (.str s) = true := rfl
      have t : isTupKey (.str s) = false := rfl
      simp only [this, t, hlk]
      cases dOf nm s <;> rfl
    have hs := has_some nm s
    rw [call__law_t_fault]
    simp only [tF]
    cases hd : dOf nm s with
    | some e =>
      rw [hd] at hs hix
      simp only [Option.isSome] at hs
      rw [← hs] at hm
      by_cases hed : e = d
      · subst hed
        simp [t_code, emb, il, iw, hm, hix, optD]
      · have hee : (((e : Nat) : Int) == (d : Int)) = false := by
          rw [beq_eq_false_iff_ne]; omega
        simp [t_code, emb, il, iw, hm, hix, hee, hed, optD]
    | none =>
      rw [hd] at hs
      simp only [Option.isSome] at hs
      rw [← hs] at hm
      cases b with
      | true => simp [t_code, emb, il, iw, hm, optD]
      | false =>
        cases h1 : s == s__
        · rw [h1] at im
          simp [t_code, emb, il, iw, hm, im, optD]
        · rw [h1] at im
          simp [t_code, emb, il, iw, hm, im, optD]
  | h3 i =>
    intro n p d b hn hw hdp hp hg
    obtain ⟨n2, rfl⟩ : ∃ n2, n = n2 + 1 := ⟨n - 1, by omega⟩
    have il := e_law_is_list n2 (.num i) M
    have iw := e_law_is_word n2 (.num i) M
    simp only [emb, isL, isW] at il iw
    rw [call__law_t_fault]
    simp [t_code, emb, il, iw, tF, optD]
  | h4 =>
    intro n p d b hn hw hdp hp hg
    obtain ⟨n2, rfl⟩ : ∃ n2, n = n2 + 1 := ⟨n - 1, by omega⟩
    have il := e_law_is_list n2 .tru M
    have iw := e_law_is_word n2 .tru M
    simp only [emb, isL, isW] at il iw
    rw [call__law_t_fault]
    simp [t_code, emb, il, iw, tF, optD]
  | h5 =>
    intro n p d b hn hw hdp hp hg
    obtain ⟨n2, rfl⟩ : ∃ n2, n = n2 + 1 := ⟨n - 1, by omega⟩
    have il := e_law_is_list n2 .nil M
    have iw := e_law_is_word n2 .nil M
    simp only [emb, isL, isW] at il iw
    rw [call__law_t_fault]
    simp [t_code, emb, il, iw, tF, optD]
end K96
set_option autoImplicit false
set_option linter.all false
set_option maxRecDepth 10000
namespace K96
open MP
abbrev DP := Dt × List Nat
mutual
/-- all words with their paths -/
def wps : Dt → List Nat → List (List Nat × List Nat)
  | .lst l t, p => wpss l p 0 ++ wps t (if isNil t then p else p ++ [l.length])
  | .wrd s, p => [(s, p)]
  | .num _, _ => []
  | .tru, _ => []
  | .nil, _ => []
def wpss : List Dt → List Nat → Nat → List (List Nat × List Nat)
  | [], _, _ => []
  | x :: r, p, k => wps x (p ++ [k]) ++ wpss r p (k + 1)
end
mutual
theorem wps_wds : ∀ (x : Dt) (p : List Nat), (wps x p).map (·.1) = wds x
  | .lst l t, p => by simp only [wps, wds, List.map_append, wpss_wds l, wps_wds t]
  | .wrd s, p => rfl
  | .num _, p => rfl
  | .tru, p => rfl
  | .nil, p => rfl
theorem wpss_wds : ∀ (l : List Dt) (p : List Nat) (k : Nat), (wpss l p k).map (·.1) = wdss l
  | [], p, k => rfl
  | x :: r, p, k => by simp only [wpss, wdss, List.map_append, wps_wds x, wpss_wds r]
end
def wnode (q : List Nat × List Nat) : D := nod (.wrd q.1) q.2
def dnode (q : DP) : D := nod q.1 q.2
def ips : List Dt → List Nat → Nat → List DP
  | [], _, _ => []
  | x :: r, p, k => (x, p ++ [k]) :: ips r p (k + 1)
theorem ips_nods : ∀ (l : List Dt) (p : List Nat) (k : Nat), (ips l p k).map dnode = nods l p k
  | [], p, k => rfl
  | x :: r, p, k => by simp only [ips, List.map_cons, ips_nods r, nods]; rfl
def swn : List DP → Nat
  | [] => 0
  | q :: r => wn q.1 + swn r
theorem swn_app (a b : List DP) : swn (a ++ b) = swn a + swn b := by
  induction a with
  | nil => simp [swn]
  | cons q r ih => simp only [List.cons_append, swn, ih]; omega
theorem swn_ips : ∀ (l : List Dt) (p : List Nat) (k : Nat), swn (ips l p k) = wns l
  | [], p, k => rfl
  | x :: r, p, k => by simp only [ips, swn, wns, swn_ips r]
theorem len_swn (l : List DP) : l.length ≤ swn l := by
  induction l with
  | nil => simp
  | cons a r ih =>
    have := wn_pos a.1
    simp only [List.length_cons, swn]
    omega
def swp : List DP → List (List Nat × List Nat)
  | [] => []
  | q :: r => wps q.1 q.2 ++ swp r
theorem swp_app (a b : List DP) : swp (a ++ b) = swp a ++ swp b := by
  induction a with
  | nil => rfl
  | cons q r ih => simp only [List.cons_append, swp, ih, List.append_assoc]
theorem swp_ips : ∀ (l : List Dt) (p : List Nat) (k : Nat), swp (ips l p k) = wpss l p k
  | [], p, k => rfl
  | x :: r, p, k => by simp only [ips, swp, wpss, swp_ips r]
theorem whileL_succ (c : Env → Mem → R Bool) (f : Env → Mem → O) (n : Nat) (r : Env) (m : Mem) : whileL c f (n + 1) r m = match c r m with
    | .stop => .stop
    | .ok false m1 => .nx r m1
    | .ok true m1 => match f r m1 with
      | .nx r2 m2 => whileL c f n r2 m2
      | .ct r2 m2 => whileL c f n r2 m2
      | .bk r2 m2 => .nx r2 m2
      | .rt d m2 => .rt d m2
      | .stop => .stop := rfl
def stk (l : List DP) : List D := (l.map dnode).reverse
theorem get_a (M : Mem) (A B : MO) : (M ++ [A, B])[M.length]? = some A := by simp
theorem get_b (M : Mem) (A B : MO) : (M ++ [A, B])[M.length + 1]? = some B := by
  rw [List.getElem?_append_right (by omega)]
  simp
theorem set_a (M : Mem) (A B C : MO) : (M ++ [A, B]).set M.length C = M ++ [C, B] := by
  rw [List.set_append_right _ _ (Nat.le_refl _)]
  simp
theorem set_b (M : Mem) (A B C : MO) : (M ++ [A, B]).set (M.length + 1) C = M ++ [A, C] := by
  rw [List.set_append_right _ _ (by omega)]
  simp
def wiBody : List St := [
    .set 3 (.me .pop (.v 2) []),
    .ite (.cmp .eq (.ix (.v 3) (.k (.int 0))) (.k (.str s_word))) [
      .ex (.me .append (.v 1) [(.v 3)])] [
      .ite (.cmp .eq (.ix (.v 3) (.k (.int 0))) (.k (.str s_row))) [
        .ex (.me .append (.v 2) [(.ix (.v 3) (.k (.int 2)))]),
        .ex (.me .extend (.v 2) [(.rev (.ix (.v 3) (.k (.int 1))))])] []]]
theorem wi_code : c_words_in = [.par [1, 2] [(.lst true []), (.lst true [(.v 0)])], .while (.v 2) wiBody, .ret (.v 1)] := rfl
def wenv (X : D) (a : Nat) (e3 : Option D) : Env := [some X, some (.obj a), some (.obj (a + 1)), e3]
theorem pop_b {M : Mem} {A : MO} {S : List D} {d : D} : meD .pop (.obj (M.length + 1)) [] (M ++ [A, .lst (S ++ [d])]) = .ok d (M ++ [A, .lst S]) := by
  unfold meD
  simp only [get_b, set_b, List.getLast?_concat, List.dropLast_concat]
theorem app_b {M : Mem} {A : MO} {S : List D} {d : D} (h : S.length < 1000000) : meD .append (.obj (M.length + 1)) [d] (M ++ [A, .lst S]) = .ok .non (M ++ [A, .lst (S ++ [d])]) := by
  have h2 : S.length < line := Nat.lt_trans h (by decide)
  unfold meD
  simp only [get_b, set_b]
  rw [if_pos (decide_eq_true h2)]
theorem app_a {M : Mem} {B : MO} {S : List D} {d : D} (h : S.length < 1000000) : meD .append (.obj M.length) [d] (M ++ [.lst S, B]) = .ok .non (M ++ [.lst (S ++ [d]), B]) := by
  have h2 : S.length < line := Nat.lt_trans h (by decide)
  unfold meD
  simp only [get_a, set_a]
  rw [if_pos (decide_eq_true h2)]
theorem ext_b {M : Mem} {A : MO} {S r : List D} (h : S.length + r.length < 1000000) : meD .extend (.obj (M.length + 1)) [.tup r] (M ++ [A, .lst S]) = .ok .non (M ++ [A, .lst (S ++ r)]) := by
  have h2 : S.length + r.length ≤ line := Nat.le_trans (Nat.le_of_lt h) (by decide)
  unfold meD
  simp only [get_b, set_b]
  rw [if_pos (decide_eq_true h2)]
theorem wi_pop {cf : CF} {X : D} {M : Mem} {A : MO} {S : List D} {d : D} {e3 : Option D} : evS cf (.set 3 (.me .pop (.v 2) [])) (wenv X M.length e3) (M ++ [A, .lst (S ++ [d])]) = .nx (wenv X M.length (some d)) (M ++ [A, .lst S]) := by
  simp only [evS_set, ev_me, wenv, ev_v, List.getElem?_cons_zero, List.getElem?_cons_succ, get_b, evs_nil, pop_b]
  rfl
theorem wi_word {cf : CF} {X : D} {M : Mem} {F S : List D} {q : List Nat × List Nat} {e3 : Option D} (h : F.length < 1000000) : evSs cf wiBody (wenv X M.length e3) (M ++ [.lst F, .lst (S ++ [wnode q])]) = .nx (wenv X M.length (some (wnode q))) (M ++ [.lst (F ++ [wnode q]), .lst S]) := by
  have ht : ev cf (.cmp .eq (.ix (.v 3) (.k (.int 0))) (.k (.str s_word))) (wenv X M.length (some (wnode q))) (M ++ [.lst F, .lst S]) = .ok (.bl true) (M ++ [.lst F, .lst S]) := by
    simp [wenv, wnode, nod]
  have ha : evS cf (.ex (.me .append (.v 1) [(.v 3)])) (wenv X M.length (some (wnode q))) (M ++ [.lst F, .lst S]) = .nx (wenv X M.length (some (wnode q))) (M ++ [.lst (F ++ [wnode q]), .lst S]) := by
    simp only [evS_ex, ev_me, wenv, ev_v, List.getElem?_cons_zero, List.getElem?_cons_succ, get_a, evs_cons, evs_nil, app_a h]
  simp only [wiBody, evSs_cons, wi_pop, evS_ite, ht, test_ok', truth_b, ha, evSs_nil]
theorem wi_leaf {cf : CF} {X : D} {M : Mem} {F S : List D} {c : D} {e3 : Option D} {r : List D} : evSs cf wiBody (wenv X M.length e3) (M ++ [.lst F, .lst (S ++ [.tup (.str s_leaf :: r)])]) = .nx (wenv X M.length (some (.tup (.str s_leaf :: r)))) (M ++ [.lst F, .lst S]) := by
  have ht : ev cf (.cmp .eq (.ix (.v 3) (.k (.int 0))) (.k (.str s_word))) (wenv X M.length (some (.tup (.str s_leaf :: r)))) (M ++ [.lst F, .lst S]) = .ok (.bl false) (M ++ [.lst F, .lst S]) := by
    simp [wenv]
  have ht2 : ev cf (.cmp .eq (.ix (.v 3) (.k (.int 0))) (.k (.str s_row))) (wenv X M.length (some (.tup (.str s_leaf :: r)))) (M ++ [.lst F, .lst S]) = .ok (.bl false) (M ++ [.lst F, .lst S]) := by
    simp [wenv]
  simp only [wiBody, evSs_cons, wi_pop, evS_ite, ht, ht2, test_ok', truth_b, evSs_nil]
theorem wi_row {cf : CF} {X : D} {M : Mem} {F S items : List D} {t P : D} {e3 : Option D} (h : S.length + items.length + 1 < 1000000) : evSs cf wiBody (wenv X M.length e3) (M ++ [.lst F, .lst (S ++ [.tup [.str s_row, .tup items, t, P]])]) = .nx (wenv X M.length (some (.tup [.str s_row, .tup items, t, P]))) (M ++ [.lst F, .lst (S ++ [t] ++ items.reverse)]) := by
  have ht : ev cf (.cmp .eq (.ix (.v 3) (.k (.int 0))) (.k (.str s_word))) (wenv X M.length (some (.tup [.str s_row, .tup items, t, P]))) (M ++ [.lst F, .lst S]) = .ok (.bl false) (M ++ [.lst F, .lst S]) := by
    simp [wenv]
  have ht2 : ev cf (.cmp .eq (.ix (.v 3) (.k (.int 0))) (.k (.str s_row))) (wenv X M.length (some (.tup [.str s_row, .tup items, t, P]))) (M ++ [.lst F, .lst S]) = .ok (.bl true) (M ++ [.lst F, .lst S]) := by
    simp [wenv]
  have hi : ev cf (.ix (.v 3) (.k (.int 2))) (wenv X M.length (some (.tup [.str s_row, .tup items, t, P]))) (M ++ [.lst F, .lst S]) = .ok t (M ++ [.lst F, .lst S]) := by simp [wenv]
  have hv : ev cf (.rev (.ix (.v 3) (.k (.int 1)))) (wenv X M.length (some (.tup [.str s_row, .tup items, t, P]))) (M ++ [.lst F, .lst (S ++ [t])]) = .ok (.tup items.reverse) (M ++ [.lst F, .lst (S ++ [t])]) := by simp [wenv]
  have h1 : evS cf (.ex (.me .append (.v 2) [(.ix (.v 3) (.k (.int 2)))])) (wenv X M.length (some (.tup [.str s_row, .tup items, t, P]))) (M ++ [.lst F, .lst S]) = .nx (wenv X M.length (some (.tup [.str s_row, .tup items, t, P]))) (M ++ [.lst F, .lst (S ++ [t])]) := by
    have hv2 : ev cf (.v 2) (wenv X M.length (some (.tup [.str s_row, .tup items, t, P]))) (M ++ [.lst F, .lst S]) = .ok (.obj (M.length + 1)) (M ++ [.lst F, .lst S]) := rfl
    simp only [evS_ex, ev_me, hv2, get_b, evs_cons, evs_nil, hi, app_b (A := .lst F) (S := S) (d := t) (M := M) (by omega)]
  have h2 : evS cf (.ex (.me .extend (.v 2) [(.rev (.ix (.v 3) (.k (.int 1))))])) (wenv X M.length (some (.tup [.str s_row, .tup items, t, P]))) (M ++ [.lst F, .lst (S ++ [t])]) = .nx (wenv X M.length (some (.tup [.str s_row, .tup items, t, P]))) (M ++ [.lst F, .lst (S ++ [t] ++ items.reverse)]) := by
    have hv2 : ev cf (.v 2) (wenv X M.length (some (.tup [.str s_row, .tup items, t, P]))) (M ++ [.lst F, .lst (S ++ [t])]) = .ok (.obj (M.length + 1)) (M ++ [.lst F, .lst (S ++ [t])]) := rfl
    simp only [evS_ex, ev_me, hv2, get_b, evs_cons, evs_nil, hv, ext_b (A := .lst F) (S := S ++ [t]) (r := items.reverse) (M := M) (by simp; omega)]
  simp only [wiBody, evSs_cons, wi_pop, evS_ite, ht, ht2, test_ok', truth_b, evSs_nil, h1, h2]
theorem wi_test {cf : CF} {X : D} {M : Mem} {A : MO} {S : List D} {e3 : Option D} : testOf (ev cf (.v 2) (wenv X M.length e3) (M ++ [A, .lst S])) = .ok (!S.isEmpty) (M ++ [A, .lst S]) := by
  have : ev cf (.v 2) (wenv X M.length e3) (M ++ [A, .lst S]) = .ok (.obj (M.length + 1)) (M ++ [A, .lst S]) := rfl
  rw [this, test_ok']
  have h : truth (.obj (M.length + 1)) (M ++ [A, .lst S]) = some (!S.isEmpty) := by
    unfold truth
    simp only [get_b]
  rw [h]
theorem wi_loop {cf : CF} {X : D} {M : Mem} : ∀ (N : Nat) (wl : List DP) (F : List D) (e3 : Option D) (fuel : Nat), swn wl ≤ N → N < fuel → F.length + N < 900000 →
    ∃ x3, whileL (fun r m => testOf (ev cf (.v 2) r m)) (fun r m => evSs cf wiBody r m) fuel (wenv X M.length e3) (M ++ [.lst F, .lst (stk wl)]) = .nx (wenv X M.length x3) (M ++ [.lst (F ++ (swp wl).map wnode), .lst []])
  | N, [], F, e3, 0, h, hf, hl => by omega
  | N, [], F, e3, fuel + 1, h, hf, hl => by
    refine ⟨e3, ?_⟩
    rw [whileL_succ]
    simp only [wi_test]
    simp [stk, swp]
  | 0, q :: wl, F, e3, fuel, h, hf, hl => by
    have := wn_pos q.1
    simp only [swn] at h
    omega
  | N + 1, q :: wl, F, e3, 0, h, hf, hl => by omega
  | N + 1, q :: wl, F, e3, fuel + 1, h, hf, hl => by
    have hpos := wn_pos q.1
    simp only [swn] at h
    have hs : stk (q :: wl) = stk wl ++ [dnode q] := by simp [stk]
    have hln := len_swn wl
    have hsl : (stk wl).length = wl.length := by simp [stk]
    rw [whileL_succ]
    simp only [wi_test]
    rw [hs]
    have he : (stk wl ++ [dnode q]).isEmpty = false := by simp
    simp only [he, Bool.not_false]
    obtain ⟨x, p⟩ := q
    cases x with
    | wrd s =>
      have hb := wi_word (cf := cf) (X := X) (M := M) (F := F) (S := stk wl) (q := (s, p)) (e3 := e3) (by omega)
      have hb : evSs cf wiBody (wenv X M.length e3) (M ++ [.lst F, .lst (stk wl ++ [dnode (.wrd s, p)])]) = .nx (wenv X M.length (some (wnode (s, p)))) (M ++ [.lst (F ++ [wnode (s, p)]), .lst (stk wl)]) := hb
      rw [hb]
      obtain ⟨x3, ih⟩ := wi_loop (cf := cf) (X := X) (M := M) N wl (F ++ [wnode (s, p)]) (some (wnode (s, p))) fuel (by simp only [wn] at h; omega) (by omega) (by simp; omega)
      refine ⟨x3, ?_⟩
      simp only [ih, swp, wps, List.map_append, List.map_cons, List.map_nil, List.append_assoc]
    | num i =>
      have hb := wi_leaf (cf := cf) (X := X) (M := M) (F := F) (S := stk wl) (c := .non) (e3 := e3) (r := [.int i, pth p])
      have hb : evSs cf wiBody (wenv X M.length e3) (M ++ [.lst F, .lst (stk wl ++ [dnode (.num i, p)])]) = .nx (wenv X M.length (some (dnode (.num i, p)))) (M ++ [.lst F, .lst (stk wl)]) := hb
      rw [hb]
      obtain ⟨x3, ih⟩ := wi_loop (cf := cf) (X := X) (M := M) N wl F (some (dnode (.num i, p))) fuel (by simp only [wn] at h; omega) (by omega) (by omega)
      exact ⟨x3, by simpa only [swp, wps, List.nil_append] using ih⟩
    | tru =>
      have hb := wi_leaf (cf := cf) (X := X) (M := M) (F := F) (S := stk wl) (c := .non) (e3 := e3) (r := [.bl true, pth p])
      have hb : evSs cf wiBody (wenv X M.length e3) (M ++ [.lst F, .lst (stk wl ++ [dnode (.tru, p)])]) = .nx (wenv X M.length (some (dnode (.tru, p)))) (M ++ [.lst F, .lst (stk wl)]) := hb
      rw [hb]
      obtain ⟨x3, ih⟩ := wi_loop (cf := cf) (X := X) (M := M) N wl F (some (dnode (.tru, p))) fuel (by simp only [wn] at h; omega) (by omega) (by omega)
      exact ⟨x3, by simpa only [swp, wps, List.nil_append] using ih⟩
    | nil =>
      have hb := wi_leaf (cf := cf) (X := X) (M := M) (F := F) (S := stk wl) (c := .non) (e3 := e3) (r := [.tup [], pth p])
      have hb : evSs cf wiBody (wenv X M.length e3) (M ++ [.lst F, .lst (stk wl ++ [dnode (.nil, p)])]) = .nx (wenv X M.length (some (dnode (.nil, p)))) (M ++ [.lst F, .lst (stk wl)]) := hb
      rw [hb]
      obtain ⟨x3, ih⟩ := wi_loop (cf := cf) (X := X) (M := M) N wl F (some (dnode (.nil, p))) fuel (by simp only [wn] at h; omega) (by omega) (by omega)
      exact ⟨x3, by simpa only [swp, wps, List.nil_append] using ih⟩
    | lst l t =>
      simp only [wn] at h
      have hll := len_wns l
      have hb := wi_row (cf := cf) (X := X) (M := M) (F := F) (S := stk wl) (items := nods l p 0) (t := nod t (if isNil t then p else p ++ [l.length])) (P := pth p) (e3 := e3) (by rw [nods_len]; omega)
      have hb : evSs cf wiBody (wenv X M.length e3) (M ++ [.lst F, .lst (stk wl ++ [dnode (.lst l t, p)])]) = .nx (wenv X M.length (some (dnode (.lst l t, p)))) (M ++ [.lst F, .lst (stk wl ++ [nod t (if isNil t then p else p ++ [l.length])] ++ (nods l p 0).reverse)]) := hb
      have hst : stk wl ++ [nod t (if isNil t then p else p ++ [l.length])] ++ (nods l p 0).reverse = stk (ips l p 0 ++ ((t, if isNil t then p else p ++ [l.length]) :: wl)) := by
        simp only [stk, List.map_append, List.map_cons, ips_nods, List.reverse_append, List.reverse_cons]
        rfl
      rw [hb, hst]
      obtain ⟨x3, ih⟩ := wi_loop (cf := cf) (X := X) (M := M) N (ips l p 0 ++ ((t, if isNil t then p else p ++ [l.length]) :: wl)) F (some (dnode (.lst l t, p))) fuel (by rw [swn_app, swn_ips]; simp only [swn]; omega) (by omega) (by omega)
      refine ⟨x3, ?_⟩
      have hsw : swp (ips l p 0 ++ ((t, if isNil t then p else p ++ [l.length]) :: wl)) = swp ((.lst l t, p) :: wl) := by
        rw [swp_app, swp_ips]
        simp only [swp, wps, List.append_assoc]
      rw [← hsw]
      exact ih
theorem e_words_in {n : Nat} {x : Dt} {p : List Nat} {M : Mem} (h : wn x ≤ 100000) : callN fns (n + 1) 4 [nod x p] M = .ok (.obj M.length) (M ++ [.lst ((wps x p).map wnode), .lst []]) := by
  obtain ⟨x3, hl⟩ := wi_loop (cf := callN fns n) (X := nod x p) (M := M) 100000 [(x, p)] [] none maxLoops (by simp only [swn]; omega) (by decide) (by decide)
  have hl : whileL _ _ maxLoops (wenv (nod x p) M.length none) (M ++ [.lst [], .lst [nod x p]]) = _ := hl
  rw [← evS_while] at hl
  simp only [swp, List.append_nil, List.nil_append] at hl
  have hpar : evS (callN fns n) (.par [1, 2] [(.lst true []), (.lst true [(.v 0)])]) [some (nod x p), none, none, none] M = .nx (wenv (nod x p) M.length none) (M ++ [.lst [], .lst [nod x p]]) := by
    simp [wenv]
  rw [call_words_in, run_fn rfl]
  show (match evSs (callN fns n) c_words_in [some (nod x p), none, none, none] M with
      | .nx _ m1 => R.ok D.non m1
      | .rt d m1 => R.ok d m1
      | _ => R.stop) = _
  rw [wi_code]
  simp only [evSs_cons, hpar, hl]
  rfl
end K96
set_option autoImplicit false
set_option linter.all false
set_option maxRecDepth 10000
namespace K96
open MP
theorem compLive_filter {t : Tg} {rw : Env} {ok : Env → Mem → R Bool} {f : Env → Mem → R D} {m : Mem} {P : D → Bool} {o : Nat} {L : List D} (hm : m[o]? = some (.lst L)) (h : ∀ d ∈ L, ∃ r1, tgt t d rw = some r1 ∧ ok r1 m = .ok (P d) m ∧ f r1 m = .ok d m) :
    ∀ (n i : Nat) (acc : List D), i ≤ L.length → L.length - i < n → acc.length + L.length ≤ line + i → compLive t rw ok f o n i acc m = .ok (acc ++ (L.drop i).filter P) m
  | 0, i, acc, hi, hn, hl => by omega
  | n + 1, i, acc, hi, hn, hl => by
    unfold compLive
    simp only [hm]
    by_cases hlt : i < L.length
    · have hg : L[i]? = some L[i] := List.getElem?_eq_getElem hlt
      obtain ⟨r1, h1, h2, h3⟩ := h L[i] (List.getElem_mem hlt)
      have hd : L.drop i = L[i] :: L.drop (i + 1) := List.drop_eq_getElem_cons hlt
      rw [hg, hd]
      simp only
      rw [h1]
      simp only
      rw [h2]
      cases hP : P L[i]
      · simp only
        rw [compLive_filter hm h n (i + 1) acc (by omega) (by omega) (by omega)]
        rw [List.filter_cons_of_neg (by rw [hP]; decide)]
      · simp only
        rw [h3]
        simp only
        rw [if_pos (Nat.lt_of_lt_of_le (show acc.length < acc.length + L.length - i by omega) (by omega)), compLive_filter hm h n (i + 1) (acc ++ [L[i]]) (by omega) (by omega) (by simp only [List.length_append, List.length_cons, List.length_nil]; omega)]
        rw [List.filter_cons_of_pos hP, List.append_assoc]
        rfl
    · have hg : L[i]? = none := List.getElem?_eq_none (by omega)
      have hd : L.drop i = [] := List.drop_eq_nil_of_le (by omega)
      rw [hg, hd]
      simp
theorem at_app {M : Mem} {o : Nat} {nm : NM} (h : At M o nm) (J : Mem) : At (M ++ J) o nm := by
  unfold At at *
  have hlt : o < M.length := (List.getElem?_eq_some_iff.mp h).1
  rw [List.getElem?_append_left hlt]
  exact h
def hnComp : Ex := .comp false [2] (.v 2) (.seq (.call 4 [(.v 1)])) [(.cmp .mem (.ix (.v 2) (.k (.int 1))) (.ix (.v 0) (.k (.str s_names))))] (.v 2)
def isName (nm : NM) : D → Bool
  | .tup [_, .str s, _, _] => has nm s
  | _ => false
theorem filter_name (nm : NM) (l : List (List Nat × List Nat)) : ((l.map wnode).filter (isName nm)) = ((l.filter fun q => has nm q.1).map wnode) := by
  induction l with
  | nil => rfl
  | cons a r ih =>
    simp only [List.map_cons, List.filter_cons, ih]
    have : isName nm (wnode a) = has nm a.1 := rfl
    rw [this]
    cases has nm a.1 <;> rfl
theorem filter_pos (nm : NM) (l : List (List Nat × List Nat)) : decide ((0 : Int) < ((l.filter fun q => has nm q.1).length : Int)) = (l.map (·.1)).any (has nm) := by
  induction l with
  | nil => rfl
  | cons a r ih =>
    simp only [List.filter_cons, List.map_cons, List.any_cons]
    cases h : has nm a.1
    · simpa using ih
    · simp
theorem e_has_name {n o : Nat} {x : Dt} {p : List Nat} {nm : NM} {M : Mem} (ha : At M o nm) (h : wn x ≤ 100000) : callN fns (n + 2) 11 [rul o, nod x p] M = .ok (.bl (hasN nm x)) (M ++ [.lst ((wps x p).map wnode), .lst []]) := by
  have hw := e_words_in (n := n) (p := p) (M := M) h
  have hlen : (wps x p).length ≤ 100000 := by
    have := wds_len x
    rw [← wps_wds x p, List.length_map] at this
    omega
  have ha' := at_app ha [.lst ((wps x p).map wnode), .lst []]
  have hc : ev (callN fns (n + 1)) hnComp [some (rul o), some (nod x p), none] M = .ok (.lst (((wps x p).filter fun q => has nm q.1).map wnode)) (M ++ [.lst ((wps x p).map wnode), .lst []]) := by
    have hi : evIt (callN fns (n + 1)) (.seq (.call 4 [(.v 1)])) [some (rul o), some (nod x p), none] M = .ok (.live M.length) (M ++ [.lst ((wps x p).map wnode), .lst []]) := by
      rw [evIt_seq]
      simp only [ev_call, evs_cons, evs_nil, ev_v, List.getElem?_cons_zero, List.getElem?_cons_succ, hw]
      unfold seqOf
      simp only [get_a]
    unfold hnComp
    rw [ev_comp, hi]
    simp only
    have hml : (100000 : Nat) < maxLoops := by decide
    have hll : (100000 : Nat) ≤ line := by decide
    rw [compLive_filter (P := isName nm) (L := (wps x p).map wnode) (get_a _ _ _) (fun z hz => ?_) maxLoops 0 [] (Nat.zero_le _) (by rw [List.length_map]; omega) (by rw [List.length_map, List.length_nil]; omega)]
    · rw [List.drop_zero, filter_name]
      rfl
    · obtain ⟨q, _, rfl⟩ := List.mem_map.mp hz
      refine ⟨[some (rul o), some (nod x p), some (wnode q)], rfl, ?_, rfl⟩
      have hm := mem_nms ha' q.1
      show (match testOf (ev (callN fns (n + 1)) (.cmp .mem (.ix (.v 2) (.k (.int 1))) (.ix (.v 0) (.k (.str s_names)))) [some (rul o), some (nod x p), some (wnode q)] (M ++ [.lst ((wps x p).map wnode), .lst []])) with
        | .ok true m1 => evTests (callN fns (n + 1)) [] _ m1
        | .ok false m1 => .ok false m1
        | .stop => R.stop) = _
      have hg : isName nm (wnode q) = has nm q.1 := rfl
      rw [hg]
      cases hh : has nm q.1
      · rw [hh] at hm
        simp [wnode, nod, hm]
      · rw [hh] at hm
        simp [wnode, nod, hm]
        rfl
  have hcode : c_has_name = [.ret (.cmp .gt (.bi .len [hnComp]) (.k (.int 0)))] := rfl
  have hp := filter_pos nm (wps x p)
  rw [wps_wds] at hp
  rw [call_has_name]
  simp [hcode, hc]
  unfold hasN
  rw [← hp]
def pBody : List St := [
    .ite (.and (.not (.v 3)) (.call 5 [(.v 0), (.v 6)])) [
      .ite (.or (.cmp .eq (.v 5) (.k (.int 0))) (.call 5 [(.v 0), (.ix (.v 4) (.bin .sub (.v 5) (.k (.int 1))))])) [
        .ret (.call 2 [(.v 6)])] []] [
      .set 7 (.and (.not (.v 3)) (.and (.cmp .lt (.bin .add (.v 5) (.k (.int 1))) (.bi .len [(.v 4)])) (.call 5 [(.v 0), (.ix (.v 4) (.bin .add (.v 5) (.k (.int 1))))]))),
      .ite (.and (.v 7) (.not (.call 11 [(.v 0), (.v 6)]))) [
        .ret (.call 2 [(.v 6)])] [],
      .set 8 (.call 12 [(.v 0), (.v 6), (.bin .add (.v 2) (.ite (.v 7) (.k (.int 1)) (.k (.int 0)))), (.v 3)]),
      .ite (.notN (.v 8)) [
        .ret (.v 8)] []]]
def pIt : St := .for (.tup [5, 6]) (.enum (.v 4)) pBody
def pRet : St := .ret (.call 12 [(.v 0), (.ix (.v 1) (.k (.int 2))), (.v 2), (.v 3)])
def pAsIt : St := .ite (.and (.not (.v 3)) (.call 10 [(.v 0), (.v 1)])) [
    .ret (.call 12 [(.v 0), (.ix (.ix (.v 1) (.k (.int 1))) (.k (.int 1))), (.v 2), (.k (.bl true))])] []
theorem p_code : c_template_fault = [
  .ite (.cmp .eq (.ix (.v 1) (.k (.int 0))) (.k (.str s_leaf))) [
    .ret (.k .non)] [],
  .ite (.cmp .eq (.ix (.v 1) (.k (.int 0))) (.k (.str s_word))) [
    .ite (.cmp .mem (.ix (.v 1) (.k (.int 1))) (.ix (.v 0) (.k (.str s_names)))) [
      .ret (.ite (.cmp .eq (.ix (.ix (.v 0) (.k (.str s_names))) (.ix (.v 1) (.k (.int 1)))) (.v 2)) (.k .non) (.ix (.v 1) (.k (.int 2))))] [],
    .ret (.ite (.and (.not (.v 3)) (.call 5 [(.v 0), (.v 1)])) (.ix (.v 1) (.k (.int 2))) (.k .non))] [],
  pAsIt, .set 4 (.ix (.v 1) (.k (.int 1))), pIt, pRet] := rfl
def penv (full : List Dt) (X : D) (p : List Nat) (o d : Nat) (b : Bool) (e5 e6 e7 e8 : Option D) : Env := [some (rul o), some X, some (.int (d : Int)), some (.bl b), some (.tup (nods full p 0)), e5, e6, e7, e8]
theorem p_prev {n k o d : Nat} {full : List Dt} {p : List Nat} {X : D} {b pm : Bool} {e6 e7 e8 : Option D} {M : Mem} (h : Prev full k pm) :
    ev (callN fns (n + 2)) (.or (.cmp .eq (.v 5) (.k (.int 0))) (.call 5 [(.v 0), (.ix (.v 4) (.bin .sub (.v 5) (.k (.int 1))))])) (penv full X p o d b (some (.int (k : Int))) e6 e7 e8) M = .ok (.bl pm) M := by
  rcases h with ⟨rfl, rfl⟩ | ⟨j, y, rfl, hg, hm⟩
  · simp [penv]
  · have h1 : (((j : Int) + 1) == 0) = false := by simp; omega
    have e := e_is_mark n y (p ++ [0 + j]) o M
    rw [hm] at e
    simp only [Nat.zero_add] at e
    simp [penv, h1, idx_nat, nods_get, hg, e]
theorem p_mark {n k o d : Nat} {full : List Dt} {x : Dt} {p : List Nat} {X : D} {pm : Bool} {e7 e8 : Option D} {M : Mem} (hx : isM x = true) (h : Prev full k pm) :
    evSs (callN fns (n + 2)) pBody (penv full X p o d false (some (.int (k : Int))) (some (nod x (p ++ [k]))) e7 e8) M =
      if pm = true then .rt (pth (p ++ [k])) M else .nx (penv full X p o d false (some (.int (k : Int))) (some (nod x (p ++ [k]))) e7 e8) M := by
  generalize p ++ [k] = q
  have e := e_is_mark n x q o M
  rw [hx] at e
  have hpo := e_path_of (n := n + 1) x q M
  have hpv := p_prev (n := n) (o := o) (d := d) (p := p) (X := X) (b := false) (e6 := some (nod x q)) (e7 := e7) (e8 := e8) (M := M) h
  have h1 : ev (callN fns (n + 2)) (.and (.not (.v 3)) (.call 5 [(.v 0), (.v 6)])) (penv full X p o d false (some (.int (k : Int))) (some (nod x q)) e7 e8) M = .ok (.bl true) M := by simp [penv, e]
  simp only [pBody, evSs_cons, evS_ite, h1, test_ok', truth_b, hpv]
  cases pm
  · simp
  · simp [penv, hpo]
theorem p_next {n k o d : Nat} {full r : List Dt} {x : Dt} {p : List Nat} {X : D} {b : Bool} {e6 e7 e8 : Option D} {M : Mem} (hd : full.drop k = x :: r) :
    ev (callN fns (n + 2)) (.and (.not (.v 3)) (.and (.cmp .lt (.bin .add (.v 5) (.k (.int 1))) (.bi .len [(.v 4)])) (.call 5 [(.v 0), (.ix (.v 4) (.bin .add (.v 5) (.k (.int 1))))]))) (penv full X p o d b (some (.int (k : Int))) e6 e7 e8) M = .ok (.bl (!b && headM r == 1)) M := by
  obtain ⟨_, g1, hl⟩ := drop_get hd
  cases b
  · cases r with
    | nil =>
      have : ¬ ((k : Int) + 1 < (full.length : Int)) := by simp at hl; omega
      simp [penv, nods_len, this, headM]
    | cons y r =>
      have hlt : ((k : Int) + 1 < (full.length : Int)) := by simp at hl; omega
      have g1 : full[k + 1]? = some y := by simpa using g1
      have e := e_is_mark n y (p ++ [0 + (k + 1)]) o M
      cases hy : isM y
      · rw [hy] at e
        simp [penv, nods_len, hlt, idx_succ, nods_get, g1, headM, hy] at e ⊢
        simp [e]
      · rw [hy] at e
        simp [penv, nods_len, hlt, idx_succ, nods_get, g1, headM, hy] at e ⊢
        simp [e]
  · simp [penv]
theorem p_other {n k o d : Nat} {full r : List Dt} {x : Dt} {p : List Nat} {X : D} {b : Bool} {nm : NM} {e7 e8 : Option D} {M : Mem} {q : List Nat} (hx : (!b && isM x) = false) (hd : full.drop k = x :: r)
    (hn : ∃ J, callN fns (n + 2) 11 [rul o, nod x q] M = .ok (.bl (hasN nm x)) (M ++ J))
    (hc : ∀ (J : Mem) (d : Nat), ∃ J2, callN fns (n + 2) 12 [rul o, nod x q, .int (d : Int), .bl b] (M ++ J) = .ok (optD (tF nm x q d b)) (M ++ J ++ J2)) :
    ∃ J, evSs (callN fns (n + 2)) pBody (penv full X p o d b (some (.int (k : Int))) (some (nod x q)) e7 e8) M =
      if ((!b && headM r == 1) && !hasN nm x) = true then .rt (pth q) (M ++ J) else
      (tF nm x q (d + (if !b && headM r == 1 then 1 else 0)) b).elim (.nx (penv full X p o d b (some (.int (k : Int))) (some (nod x q)) (some (.bl (!b && headM r == 1))) (some .non)) (M ++ J)) fun q => .rt (pth q) (M ++ J) := by
  have e := e_is_mark n x q o M
  have h1 : ev (callN fns (n + 2)) (.and (.not (.v 3)) (.call 5 [(.v 0), (.v 6)])) (penv full X p o d b (some (.int (k : Int))) (some (nod x q)) e7 e8) M = .ok (.bl false) M := by
    cases b
    · simp only [Bool.not_false, Bool.true_and] at hx
      rw [hx] at e
      simp [penv, e]
    · simp [penv]
  have hpo : ∀ M, callN fns (n + 2) 2 [nod x q] M = .ok (pth q) M := fun M => e_path_of (n := n + 1) x q M
  have h2 := p_next (n := n) (o := o) (d := d) (p := p) (X := X) (b := b) (e6 := some (nod x q)) (e7 := e7) (e8 := e8) (M := M) hd
  generalize hmo : (!b && headM r == 1) = mo at *
  obtain ⟨J1, hn⟩ := hn
  have hset : (penv full X p o d b (some (.int (k : Int))) (some (nod x q)) e7 e8).set 7 (some (.bl mo)) = penv full X p o d b (some (.int (k : Int))) (some (nod x q)) (some (.bl mo)) e8 := rfl
  simp only [pBody, evSs_cons, evS_ite, h1, test_ok', truth_b, evSs_nil, evS_set, h2, hset]
  cases mo with
  | true =>
    cases hh : hasN nm x
    · rw [hh] at hn
      exact ⟨J1, by simp [penv, hn, hpo]⟩
    · rw [hh] at hn
      obtain ⟨J2, hc⟩ := hc J1 (d + 1)
      refine ⟨J1 ++ J2, ?_⟩
      have hdd : ((d + 1 : Nat) : Int) = (d : Int) + 1 := by omega
      rw [hdd, List.append_assoc] at hc
      simp only [if_true]
      cases hres : tF nm x q (d + 1) b with
      | none =>
        rw [hres] at hc
        simp only [optD] at hc
        simp [penv, hn, hc]
      | some z =>
        rw [hres] at hc
        have hc : callN fns (n + 2) 12 [rul o, nod x q, .int ((d : Int) + 1), .bl b] (M ++ J1) = .ok (.tup (z.map fun (k : Nat) => .int (k : Int))) (M ++ (J1 ++ J2)) := hc
        simp [penv, hn, hc]
        rfl
  | false =>
    obtain ⟨J2, hc⟩ := hc [] d
    refine ⟨J2, ?_⟩
    rw [List.append_nil] at hc
    simp only [Bool.false_eq_true, if_false, Bool.false_and, Nat.add_zero]
    cases hres : tF nm x q d b with
    | none =>
      rw [hres] at hc
      simp only [optD] at hc
      simp [penv, hc]
    | some z =>
      rw [hres] at hc
      have hc : callN fns (n + 2) 12 [rul o, nod x q, .int (d : Int), .bl b] M = .ok (.tup (z.map fun (k : Nat) => .int (k : Int))) (M ++ J2) := hc
      simp [penv, hc]
      rfl
end K96
set_option autoImplicit false
set_option linter.all false
set_option maxRecDepth 10000
namespace K96
open MP
def PEnd (M : Mem) (res : Option (List Nat)) (env : Option D → Option D → Option D → Option D → Env) (out : O) : Prop := ∃ J, match res with
  | some q => out = .rt (pth q) (M ++ J)
  | none => ∃ x5 x6 x7 x8, out = .nx (env x5 x6 x7 x8) (M ++ J)
theorem PEnd.app {M J : Mem} {res : Option (List Nat)} {env : Option D → Option D → Option D → Option D → Env} {out : O} (h : PEnd (M ++ J) res env out) : PEnd M res env out := by
  obtain ⟨J2, h⟩ := h
  refine ⟨J ++ J2, ?_⟩
  cases res with
  | some q => simpa only [List.append_assoc] using h
  | none => simpa only [List.append_assoc] using h
theorem tgt56p (full : List Dt) (y : D) (k : Nat) (X : D) (p : List Nat) (o d : Nat) (b : Bool) (e5 e6 e7 e8 : Option D) : tgt (.tup [5, 6]) (.tup [.int (k : Int), y]) (penv full X p o d b e5 e6 e7 e8) = some (penv full X p o d b (some (.int (k : Int))) (some y) e7 e8) := rfl
theorem p_loop {n o d : Nat} {full : List Dt} {p : List Nat} {X : D} {b : Bool} {nm : NM} : ∀ (suf : List Dt) (k : Nat) (pm : Bool) (e5 e6 e7 e8 : Option D) (M : Mem), full.drop k = suf → Prev full k pm → At M o nm →
    (∀ x ∈ suf, wn x ≤ 100000 ∧ ∀ (q : List Nat) (M : Mem) (d : Nat), At M o nm → ∃ J2, callN fns (n + 2) 12 [rul o, nod x q, .int (d : Int), .bl b] M = .ok (optD (tF nm x q d b)) (M ++ J2)) →
    PEnd M (tI nm suf k pm p d b) (penv full X p o d b) (forL (.tup [5, 6]) (fun r m => evSs (callN fns (n + 2)) pBody r m) (enumFrom k (nods suf p k)) (penv full X p o d b e5 e6 e7 e8) M)
  | [], k, pm, e5, e6, e7, e8, M, hd, hpm, ha, h => by
    simp only [tI, PEnd, nods, enumFrom, forL]
    exact ⟨[], _, _, _, _, by rw [List.append_nil]⟩
  | x :: r, k, pm, e5, e6, e7, e8, M, hd, hpm, ha, h => by
    have hd2 : full.drop (k + 1) = r := by
      rw [← List.drop_drop, hd]; rfl
    have hr : ∀ x ∈ r, _ := fun y hy => h y (List.mem_cons_of_mem _ hy)
    obtain ⟨hwn, hc⟩ := h x (List.mem_cons_self ..)
    have hpn := prev_next hd
    simp only [nods, enumFrom]
    rw [forL_cons (tgt56p _ _ _ _ _ _ _ _ _ _ _ _)]
    simp only [tI]
    cases hx : (!b && isM x)
    · obtain ⟨J, ht⟩ := p_other (p := p) (X := X) (e7 := e7) (e8 := e8) (q := p ++ [k]) hx hd ⟨_, e_has_name (n := n) (p := p ++ [k]) ha hwn⟩ (fun J d => hc (p ++ [k]) (M ++ J) d (at_app ha J))
      rw [ht]
      simp only [Bool.false_eq_true, if_false]
      by_cases h2 : ((!b && headM r == 1) && !hasN nm x) = true
      · rw [if_pos h2, if_pos h2]
        exact ⟨J, rfl⟩
      · rw [if_neg h2, if_neg h2]
        cases tF nm x (p ++ [k]) (d + (if !b && headM r == 1 then 1 else 0)) b with
        | some q => exact ⟨J, rfl⟩
        | none =>
          refine PEnd.app (J := J) ?_
          cases b with
          | false =>
            simp only [Bool.not_false, Bool.true_and] at hx
            rw [hx] at hpn
            exact p_loop r (k + 1) false _ _ _ _ (M ++ J) hd2 hpn (at_app ha J) hr
          | true =>
            have := p_loop (b := true) (d := d) (X := X) (full := full) (p := p) r (k + 1) (isM x) (some (.int (k : Int))) (some (nod x (p ++ [k]))) (some (.bl (!true && headM r == 1))) (some .non) (M ++ J) hd2 hpn (at_app ha J) hr
            have hpm : ∀ (l : List Dt) (k : Nat) (a c : Bool), tI nm l k a p d true = tI nm l k c p d true := fun l k a c => by cases l <;> simp [tI]
            rw [hpm r (k + 1) (isM x) false] at this
            exact this
    · have hb : b = false := by cases b; rfl; simp at hx
      subst hb
      simp only [Bool.not_false, Bool.true_and] at hx
      rw [p_mark hx hpm]
      simp only [if_true]
      cases pm
      · rw [hx] at hpn
        exact p_loop r (k + 1) true _ _ _ _ M hd2 hpn ha hr
      · exact ⟨[], by simp⟩
theorem nil_node (t : Dt) (q : List Nat) (n : Nat) (M : Mem) : callN fns (n + 1) 6 [nod t q] M = .ok (.bl (isNil t)) M := by
  rw [call_is_plain_tail]
  cases t <;> simp [c_is_plain_tail, nod, isNil]
  all_goals rfl
theorem e_asit {n o : Nat} {l : List Dt} {t : Dt} {p q : List Nat} {M : Mem} : callN fns (n + 3) 10 [rul o, .tup [.str s_row, .tup (nods l p 0), nod t q, pth p]] M = .ok (.bl (l.length == 2 && (headM l == 1 && isNil t))) M := by
  have hn := nil_node t q (n + 1) M
  have h2 : (((l.length : Nat) : Int) == 2) = (l.length == 2) := by
    rw [Bool.eq_iff_iff]; simp; omega
  rw [call_is_as_it_is]
  cases hl : l.length == 2
  · rw [hl] at h2
    simp [c_is_as_it_is, nods_len, h2]
  · rw [hl] at h2
    cases l with
    | nil => cases hl
    | cons a r =>
      have e := e_is_mark n a (p ++ [0]) o M
      have h2 : (((r.length : Nat) : Int) + 1 == 2) = true := by simpa using h2
      cases ha : isM a
      · rw [ha] at e
        simp [c_is_as_it_is, nods, nods_len, h2, e, headM, ha]
      · rw [ha] at e
        simp [c_is_as_it_is, nods, nods_len, h2, e, headM, ha, hn]
theorem tF_tail (nm : NM) (t : Dt) (p : List Nat) (k d : Nat) (b : Bool) : tF nm t (if isNil t then p else p ++ [k]) d b = tF nm t (p ++ [k]) d b := by
  cases t <;> simp [tF, isNil]
theorem p_head {n o : Nat} {items d t P : D} {b : Bool} {M : Mem} {R : R D}
    (hc : (match evSs (callN fns n) [pAsIt, .set 4 (.ix (.v 1) (.k (.int 1))), pIt, pRet] [some (rul o), some (.tup [.str s_row, items, t, P]), some d, some (.bl b), none, none, none, none, none] M with
      | .nx _ m1 => MP.R.ok D.non m1
      | .rt d m1 => MP.R.ok d m1
      | _ => MP.R.stop) = R) : callN fns (n + 1) 12 [rul o, .tup [.str s_row, items, t, P], d, .bl b] M = R := by
  rw [call_template_fault, ← hc]
  simp [p_code]
  all_goals rfl
theorem e_tF {o : Nat} {nm : NM} : ∀ (x : Dt) (n : Nat) (p : List Nat) (d : Nat) (b : Bool) (M : Mem), dp x + 4 ≤ n → wn x ≤ 100000 → At M o nm →
    ∃ J, callN fns (n + 1) 12 [rul o, nod x p, .int (d : Int), .bl b] M = .ok (optD (tF nm x p d b)) (M ++ J) := by
  intro x
  induction x using Dt.ind with
  | h1 l t hl ht =>
    intro n p d b M hn hw ha
    simp only [dp] at hn
    simp only [wn] at hw
    obtain ⟨n2, rfl⟩ : ∃ n2, n = n2 + 3 := ⟨n - 3, by omega⟩
    have hitems : ∀ x ∈ l, wn x ≤ 100000 ∧ ∀ (b : Bool) (q : List Nat) (M : Mem) (d : Nat), At M o nm → ∃ J2, callN fns (n2 + 3) 12 [rul o, nod x q, .int (d : Int), .bl b] M = .ok (optD (tF nm x q d b)) (M ++ J2) := by
      intro x hx
      have h1 := mem_dps hx
      have h2 := mem_wns hx
      exact ⟨by omega, fun b q M d ha => hl x hx (n2 + 2) q d b M (by omega) (by omega) ha⟩
    have hasit := e_asit (n := n2) (o := o) (l := l) (t := t) (p := p) (q := if isNil t then p else p ++ [l.length]) (M := M)
    have hloop := p_loop (n := n2 + 1) (o := o) (d := d) (full := l) (p := p) (X := nod (.lst l t) p) (b := b) (nm := nm) l 0 true none none none none M rfl (.inl ⟨rfl, rfl⟩) ha fun x hx => ⟨(hitems x hx).1, fun q M d ha => (hitems x hx).2 b q M d ha⟩
    have hfor : evS (callN fns (n2 + 3)) pIt (penv l (nod (.lst l t) p) p o d b none none none none) M = forL (.tup [5, 6]) (fun r m => evSs (callN fns (n2 + 3)) pBody r m) (enumFrom 0 (nods l p 0)) (penv l (nod (.lst l t) p) p o d b none none none none) M := by
      unfold pIt
      rw [evS_for, enum_vals (l := nods l p 0) rfl]
    rw [← hfor] at hloop
    have key : ∃ J, (match evSs (callN fns (n2 + 3)) [pAsIt, .set 4 (.ix (.v 1) (.k (.int 1))), pIt, pRet] [some (rul o), some (nod (.lst l t) p), some (.int (d : Int)), some (.bl b), none, none, none, none, none] M with
      | .nx _ m1 => MP.R.ok D.non m1
      | .rt d m1 => MP.R.ok d m1
      | _ => MP.R.stop) = .ok (optD (tF nm (.lst l t) p d b)) (M ++ J) := by
      simp only [tF]
      have htest : ev (callN fns (n2 + 3)) (.and (.not (.v 3)) (.call 10 [(.v 0), (.v 1)])) [some (rul o), some (nod (.lst l t) p), some (.int (d : Int)), some (.bl b), none, none, none, none, none] M = .ok (.bl (!b && (l.length == 2 && (headM l == 1 && isNil t)))) M := by
        cases b
        · simp [nod, hasit]
        · simp
      cases has : (!b && (l.length == 2 && (headM l == 1 && isNil t)))
      · rw [has] at htest
        have hset : evS (callN fns (n2 + 3)) (.set 4 (.ix (.v 1) (.k (.int 1)))) [some (rul o), some (nod (.lst l t) p), some (.int (d : Int)), some (.bl b), none, none, none, none, none] M = .nx (penv l (nod (.lst l t) p) p o d b none none none none) M := by
          simp [nod, penv]
        simp only [evSs_cons, evSs_nil, pAsIt, evS_ite, htest, test_ok', truth_b, Bool.false_eq_true, if_false, hset]
        cases hti : tI nm l 0 true p d b with
        | some q =>
          rw [hti] at hloop
          obtain ⟨J, hloop⟩ := hloop
          have hloop : evS (callN fns (n2 + 3)) pIt _ M = .rt (pth q) (M ++ J) := hloop
          rw [hloop]
          exact ⟨J, rfl⟩
        | none =>
          rw [hti] at hloop
          obtain ⟨J, x5, x6, x7, x8, hloop⟩ := hloop
          rw [hloop]
          obtain ⟨J2, h2⟩ := ht (n2 + 2) (if isNil t then p else p ++ [l.length]) d b (M ++ J) (by omega) (by omega) (at_app ha J)
          rw [tF_tail, List.append_assoc] at h2
          exact ⟨J ++ J2, by simp [pRet, penv, nod, h2]⟩
      · rw [has] at htest
        simp only [evSs_cons, evSs_nil, pAsIt, evS_ite, htest, test_ok', truth_b, if_true]
        simp only [Bool.and_eq_true, beq_iff_eq] at has
        match l, has.2.1 with
        | [a, y], _ =>
          obtain ⟨J, h2⟩ := (hitems y (by simp)).2 true (p ++ [1]) M d ha
          exact ⟨J, by simp [nod, nods, h2, tS, tS1]⟩
    obtain ⟨J, key⟩ := key
    exact ⟨J, p_head key⟩
  | h2 s =>
    intro n p d b M hn hw ha
    obtain ⟨n2, rfl⟩ : ∃ n2, n = n2 + 2 := ⟨n - 2, by omega⟩
    have im := e_is_mark n2 (.wrd s) p o M
    have hm := mem_nms ha s
    have hlk := look_nms nm s
    simp only [nod, isM] at im
    have hix : ixD (.obj o) (.str s) M = match (dOf nm s) with | some (d : Nat) => .ok (D.int (d : Int)) M | none => .stop := by
      unfold ixD
      unfold At at ha
      simp only [ha]
      have : isKey (.str s) = true := rfl
      have t : isTupKey (.str s) = false := rfl
      simp only [this, t, hlk]
      cases dOf nm s <;> rfl
    have hs := has_some nm s
    refine ⟨[], ?_⟩
    rw [call_template_fault, List.append_nil]
    simp only [tF]
    cases hd : dOf nm s with
    | some e =>
      rw [hd] at hs hix
      simp only [Option.isSome] at hs
      rw [← hs] at hm
      by_cases hed : e = d
      · subst hed
        simp [p_code, nod, hm, hix, optD]
      · have hee : (((e : Nat) : Int) == (d : Int)) = false := by
          rw [beq_eq_false_iff_ne]; omega
        simp [p_code, nod, hm, hix, hee, hed, optD]
    | none =>
      rw [hd] at hs
      simp only [Option.isSome] at hs
      rw [← hs] at hm
      cases b with
      | true => simp [p_code, nod, hm, optD]
      | false =>
        cases h1 : s == s__
        · rw [h1] at im
          simp [p_code, nod, hm, im, optD]
        · rw [h1] at im
          simp [p_code, nod, hm, im, optD]
  | h3 i =>
    intro n p d b M hn hw ha
    refine ⟨[], ?_⟩
    rw [call_template_fault]
    simp [p_code, nod, tF, optD]
  | h4 =>
    intro n p d b M hn hw ha
    refine ⟨[], ?_⟩
    rw [call_template_fault]
    simp [p_code, nod, tF, optD]
  | h5 =>
    intro n p d b M hn hw ha
    refine ⟨[], ?_⟩
    rw [call_template_fault]
    simp [p_code, nod, tF, optD]
end K96
set_option autoImplicit false
set_option linter.all false
set_option maxRecDepth 10000
namespace K96
open MP
theorem ev_dcomp {cf : CF} {r : Env} {m : Mem} (own : List Nat) (t : Tg) (it : It) (key val : Ex) : ev cf (.dcomp own t it key val) r m = match evIt cf it r m with
    | .ok (.vals l) m1 =>
      (match compL t (wipeE r own) (fun _ m => .ok true m) (fun r m => match ev cf key r m with
          | .ok x m1 => if isKey x && isTupKey x then (match ev cf val r m1 with | .ok y m2 => .ok (.tup [x, y]) m2 | .stop => .stop) else .stop
          | .stop => .stop) l [] m1 with
        | .ok _ m2 => .ok .opq m2
        | .stop => .stop)
    | _ => .stop := rfl
theorem e_plain_rule {n : Nat} {M : Mem} : callN fns (n + 1) 13 [lit1] M = .ok (rul M.length) (M ++ [.dct false [] false]) := by
  have hd : ∀ M : Mem, ev (callN fns n) (.dcomp [1] (.v 1) (.seq (.v 0)) (.tup [(.v 1), (.v 1)]) (.k (.bl true))) [some lit1, none] M = .ok .opq M := fun M => rfl
  rw [call_plain_rule]
  simp [c_plain_rule, hd]
  rfl
theorem at_new (M : Mem) : At (M ++ [.dct false [] false]) M.length [] := by
  unfold At
  simp [nms]
theorem out_new (M : Mem) (nm : NM) (x : MO) : outNm (M ++ [x]) M.length nm = M ++ [.dct false (nms nm) false] := by
  unfold outNm
  rw [List.set_append_right _ _ (Nat.le_refl _)]
  simp
theorem at_new2 (M : Mem) (nm : NM) : At (M ++ [.dct false (nms nm) false]) M.length nm := by
  unfold At
  simp
/-- what the package tells of a rule -/
def rfD (x y : Dt) : D := match (wF [] x).1 with
  | some q => .tup [.str s_pattern, pth q]
  | none => match tF (wF [] x).2 y [] 0 false with
    | some q => .tup [.str s_template, pth q]
    | none => .non
theorem e_node0 {n : Nat} {x : Dt} {M : Mem} (hw : wf x = true) (hs : sm x = true) (hn : dp x < n) (hd : dp x < 900) : callN fns (n + 1) 1 [emb x, .tup []] M = .ok (nod x []) M :=
  e_node x n [] M hw hs hn (by simp; omega)
theorem rf_pat {n : Nat} {x : Dt} {L X Y Rl Nd q : D} {M M1 M2 : Mem} (h13 : callN fns n 13 [L] M = .ok Rl M1) (h1 : callN fns n 1 [X, .tup []] M1 = .ok Nd M1) (h9 : callN fns n 9 [Rl, Nd] M1 = .ok q M2) {l : List D} (hq : q = .tup l) : callN fns (n + 1) 14 [L, X, Y] M = .ok (.tup [.str s_pattern, q]) M2 := by
  subst hq
  rw [call_rule_fault]
  simp [c_rule_fault, h13, h1, h9]
theorem rf_tmp_n {n : Nat} {L X Y Rl Nd Nt q : D} {M M1 M2 M3 : Mem} (h13 : callN fns n 13 [L] M = .ok Rl M1) (h1 : callN fns n 1 [X, .tup []] M1 = .ok Nd M1) (h9 : callN fns n 9 [Rl, Nd] M1 = .ok .non M2) (h2 : callN fns n 1 [Y, .tup []] M2 = .ok Nt M2) (h12 : callN fns n 12 [Rl, Nt, .int 0, .bl false] M2 = .ok q M3) (hq : q = .non) : callN fns (n + 1) 14 [L, X, Y] M = .ok .non M3 := by
  subst hq
  rw [call_rule_fault]
  simp [c_rule_fault, h13, h1, h9, h2, h12]
theorem rf_tmp_t {n : Nat} {L X Y Rl Nd Nt q : D} {M M1 M2 M3 : Mem} (h13 : callN fns n 13 [L] M = .ok Rl M1) (h1 : callN fns n 1 [X, .tup []] M1 = .ok Nd M1) (h9 : callN fns n 9 [Rl, Nd] M1 = .ok .non M2) (h2 : callN fns n 1 [Y, .tup []] M2 = .ok Nt M2) (h12 : callN fns n 12 [Rl, Nt, .int 0, .bl false] M2 = .ok q M3) {l : List D} (hq : q = .tup l) : callN fns (n + 1) 14 [L, X, Y] M = .ok (.tup [.str s_template, q]) M3 := by
  subst hq
  rw [call_rule_fault]
  simp [c_rule_fault, h13, h1, h9, h2, h12]
theorem e_rule_fault {n : Nat} {x y : Dt} {M : Mem} (hx : gd 1000 x = true) (hy : gd 1000 y = true) (hn : 80 ≤ n) (dx : dp x ≤ 30) (dy : dp y ≤ 30) (wx : wn x ≤ 30000) (wy : wn y ≤ 30000) : ∃ J, callN fns (n + 1) 14 [lit1, emb x, emb y] M = .ok (rfD x y) (M ++ J) := by
  obtain ⟨n2, rfl⟩ : ∃ n2, n = n2 + 4 := ⟨n - 4, by omega⟩
  have h13 := e_plain_rule (n := n2 + 3) (M := M)
  have h1 := e_node0 (n := n2 + 3) (x := x) (M := M ++ [.dct false [] false]) (gd_wf _ x hx) (gd_sm (Nat.le_refl _) x hx) (by omega) (by omega)
  have h9 := e_whole (n := n2) (o := M.length) (x := x) (nm := []) (M := M ++ [.dct false [] false]) (gd_wf _ x hx) (by omega) (at_new M) (by simp; omega)
  rw [out_new] at h9
  unfold rfD
  cases hr : (wF [] x).1 with
  | some q =>
    rw [hr] at h9
    exact ⟨_, rf_pat (x := x) h13 h1 h9 (l := q.map fun (k : Nat) => .int (k : Int)) rfl⟩
  | none =>
    rw [hr] at h9
    have h2 := e_node0 (n := n2 + 3) (x := y) (M := M ++ [.dct false (nms (wF [] x).2) false]) (gd_wf _ y hy) (gd_sm (Nat.le_refl _) y hy) (by omega) (by omega)
    obtain ⟨J, h12⟩ := e_tF (o := M.length) (nm := (wF [] x).2) y (n2 + 3) [] 0 false (M ++ [.dct false (nms (wF [] x).2) false]) (by omega) (by omega) (at_new2 M _)
    refine ⟨[.dct false (nms (wF [] x).2) false] ++ J, ?_⟩
    rw [← List.append_assoc]
    cases ht : tF (wF [] x).2 y [] 0 false with
    | none =>
      rw [ht] at h12
      exact rf_tmp_n h13 h1 h9 h2 h12 rfl
    | some q =>
      rw [ht] at h12
      exact rf_tmp_t h13 h1 h9 h2 h12 (l := q.map fun (k : Nat) => .int (k : Int)) rfl
theorem e_pattern_names {n : Nat} {x : Dt} {M : Mem} (hx : gd 1000 x = true) (hn : 80 ≤ n) (dx : dp x ≤ 30) (wx : wn x ≤ 30000) : callN fns (n + 1) 16 [lit1, emb x] M = .ok (.tup (pairsOf (nms (wF [] x).2))) (M ++ [.dct false (nms (wF [] x).2) false]) := by
  obtain ⟨n2, rfl⟩ : ∃ n2, n = n2 + 5 := ⟨n - 5, by omega⟩
  have h13 := e_plain_rule (n := n2 + 3) (M := M)
  have h1 := e_node0 (n := n2 + 3) (x := x) (M := M ++ [.dct false [] false]) (gd_wf _ x hx) (gd_sm (Nat.le_refl _) x hx) (by omega) (by omega)
  have h9 := e_whole (n := n2) (o := M.length) (x := x) (nm := []) (M := M ++ [.dct false [] false]) (gd_wf _ x hx) (by omega) (at_new M) (by simp; omega)
  rw [out_new] at h9
  have h15 : callN fns (n2 + 5) 15 [lit1, emb x] M = .ok (rul M.length) (M ++ [.dct false (nms (wF [] x).2) false]) := by
    rw [call_looked_at]
    simp [c_looked_at, h13, h1, h9]
  have hi : biD .items [.obj M.length] (M ++ [.dct false (nms (wF [] x).2) false]) = .ok (.lst (pairsOf (nms (wF [] x).2))) (M ++ [.dct false (nms (wF [] x).2) false]) := by
    unfold biD
    simp
  rw [call_pattern_names]
  simp [c_pattern_names, h15, hi]
end K96
set_option autoImplicit false
set_option linter.all false
set_option maxRecDepth 10000
namespace K96
open MP
/-! ### the machine of the draws -/
def mch (left seed spot next : Int) (cells : List Int) : MO := .dct false [(.str s_left, .int left), (.str s_seed, .int seed), (.str s_cells, .lst (cells.map .int)), (.str s_spot, .int spot), (.str s_next, .int next)] false
structure Mc (M : Mem) (m : Nat) (B : Int) : Prop where
  ex : ∃ left seed spot next cells, M[m]? = some (mch left seed spot next cells) ∧ 0 ≤ seed ∧ seed < 2147483647 ∧ 0 ≤ spot ∧ spot ≤ B ∧ 0 ≤ next ∧ next ≤ B ∧ cells ≠ []
/-- the memory behind, but for one object -/
structure Kp (m : Nat) (M M' : Mem) : Prop where
  len : M.length ≤ M'.length
  get : ∀ i, i < M.length → i ≠ m → M'[i]? = M[i]?
theorem Kp.refl (m : Nat) (M : Mem) : Kp m M M := ⟨Nat.le_refl _, fun _ _ _ => rfl⟩
theorem Kp.trans {m : Nat} {M M1 M2 : Mem} (a : Kp m M M1) (b : Kp m M1 M2) : Kp m M M2 := ⟨Nat.le_trans a.len b.len, fun i h hm => by rw [b.get i (Nat.lt_of_lt_of_le h a.len) hm, a.get i h hm]⟩
theorem Kp.set {m : Nat} {M : Mem} {x : MO} : Kp m M (M.set m x) := ⟨by simp, fun i h hm => by rw [List.getElem?_set_ne (Ne.symm hm)]⟩
theorem Kp.app {m : Nat} {M J : Mem} : Kp m M (M ++ J) := ⟨by simp, fun i h hm => List.getElem?_append_left h⟩
theorem Kp.at {m o : Nat} {M M' : Mem} {nm : NM} (k : Kp m M M') (h : At M o nm) (hm : o ≠ m) : At M' o nm := by
  unfold At at *
  have hlt : o < M.length := (List.getElem?_eq_some_iff.mp h).1
  rw [k.get o hlt hm]
  exact h
theorem Mc.app {M J : Mem} {m : Nat} {B : Int} (h : Mc M m B) : Mc (M ++ J) m B := by
  obtain ⟨a, b, c, d, e, h, r⟩ := h.ex
  have hlt : m < M.length := (List.getElem?_eq_some_iff.mp h).1
  exact ⟨a, b, c, d, e, by rw [List.getElem?_append_left hlt]; exact h, r⟩
theorem Mc.le {M : Mem} {m : Nat} {B C : Int} (h : Mc M m B) (hb : B ≤ C) : Mc M m C := by
  obtain ⟨a, b, c, d, e, h, h1, h2, h3, h4, h5, h6, h7⟩ := h.ex
  exact ⟨a, b, c, d, e, h, h1, h2, h3, by omega, h5, by omega, h7⟩
section
variable {M : Mem} {m : Nat} {left seed spot next : Int} {cells : List Int}
theorem m_get (h : M[m]? = some (mch left seed spot next cells)) (k : List Nat) (d : D) (hk : lookK (.str k) [(.str s_left, .int left), (.str s_seed, .int seed), (.str s_cells, .lst (cells.map .int)), (.str s_spot, .int spot), (.str s_next, .int next)] = some d) : ixD (.obj m) (.str k) M = .ok d M := by
  unfold ixD
  simp only [h, mch]
  have : isKey (.str k) = true := rfl
  have t : isTupKey (.str k) = false := rfl
  simp [this, t, hk]
theorem m_left (h : M[m]? = some (mch left seed spot next cells)) : ixD (.obj m) (.str s_left) M = .ok (.int left) M := m_get h _ _ rfl
theorem m_seed (h : M[m]? = some (mch left seed spot next cells)) : ixD (.obj m) (.str s_seed) M = .ok (.int seed) M := m_get h _ _ rfl
theorem m_cells (h : M[m]? = some (mch left seed spot next cells)) : ixD (.obj m) (.str s_cells) M = .ok (.lst (cells.map .int)) M := m_get h _ _ rfl
theorem m_spot (h : M[m]? = some (mch left seed spot next cells)) : ixD (.obj m) (.str s_spot) M = .ok (.int spot) M := m_get h _ _ rfl
theorem m_next (h : M[m]? = some (mch left seed spot next cells)) : ixD (.obj m) (.str s_next) M = .ok (.int next) M := m_get h _ _ rfl
theorem m_set (h : M[m]? = some (mch left seed spot next cells)) (k : List Nat) (d : D) (x : MO) (hx : .dct false (putK (.str k) d [(.str s_left, .int left), (.str s_seed, .int seed), (.str s_cells, .lst (cells.map .int)), (.str s_spot, .int spot), (.str s_next, .int next)]) false = x) : setixD (.obj m) (.str k) d M = some (M.set m x) := by
  unfold setixD
  simp only [h, mch]
  have : isKey (.str k) = true := rfl
  have t : isTupKey (.str k) = false := rfl
  simp [this, t, ← hx]
theorem m_set_left (h : M[m]? = some (mch left seed spot next cells)) (v : Int) : setixD (.obj m) (.str s_left) (.int v) M = some (M.set m (mch v seed spot next cells)) := m_set h _ _ _ rfl
theorem m_set_spot (h : M[m]? = some (mch left seed spot next cells)) (v : Int) : setixD (.obj m) (.str s_spot) (.int v) M = some (M.set m (mch left seed v next cells)) := m_set h _ _ _ rfl
theorem m_set_next (h : M[m]? = some (mch left seed spot next cells)) (v : Int) : setixD (.obj m) (.str s_next) (.int v) M = some (M.set m (mch left seed spot v cells)) := m_set h _ _ _ rfl
theorem m_at {x : MO} (h : M[m]? = some (mch left seed spot next cells)) : (M.set m x)[m]? = some x := by
  have hlt : m < M.length := (List.getElem?_eq_some_iff.mp h).1
  rw [List.getElem?_set_self hlt]
end
theorem mul_r {i j : Int} {m : Mem} (h : -1000000000000000000 < j ∧ j < 1000000000000000000) : binD .mul (.int i) (.int j) m = .ok (.int (i * j)) m := by
  have h2 : decide (-(2 ^ 64) < j ∧ j < 2 ^ 64) = true := by
    rw [decide_eq_true_eq, show ((2 : Int) ^ 64) = 18446744073709551616 from rfl]
    omega
  unfold binD
  simp only [h2, Bool.or_true, if_true]
theorem mul_l {i j : Int} {m : Mem} (h : -1000000000000000000 < i ∧ i < 1000000000000000000) : binD .mul (.int i) (.int j) m = .ok (.int (i * j)) m := by
  have h2 : decide (-(2 ^ 64) < i ∧ i < 2 ^ 64) = true := by
    rw [decide_eq_true_eq, show ((2 : Int) ^ 64) = 18446744073709551616 from rfl]
    omega
  unfold binD
  simp only [h2, Bool.true_or, if_true]
theorem mod_ok {i j : Int} {m : Mem} (h : 0 < j) : binD .mod (.int i) (.int j) m = .ok (.int (i % j)) m := by
  unfold binD
  simp only [decide_eq_true h, if_true]
theorem fdiv_ok {i j : Int} {m : Mem} (h : 0 < j ∧ j < 1073741824) : binD .fdiv (.int i) (.int j) m = .ok (.int (i / j)) m := by
  unfold binD
  simp only [decide_eq_true h, if_true]
@[simp] theorem bi_int (i : Int) (m : Mem) : biD .int [.int i] m = .ok (.int i) m := rfl
theorem cell_get (cells : List Int) (s : Int) (m : Mem) (h : cells ≠ []) (hs : 0 ≤ s) : ∃ c, ixD (.lst (cells.map D.int)) (.int (s % (cells.length : Int))) m = .ok (.int c) m := by
  have hl : 0 < cells.length := List.length_pos_iff.mpr h
  have h1 : 0 ≤ s % (cells.length : Int) := Int.emod_nonneg _ (by omega)
  have h2 : s % (cells.length : Int) < (cells.length : Int) := Int.emod_lt_of_pos _ (by omega)
  obtain ⟨k, hk⟩ := Int.eq_ofNat_of_zero_le h1
  rw [hk] at h2 ⊢
  have hk2 : k < cells.length := by omega
  refine ⟨cells[k], ?_⟩
  have e : idx? (cells.map D.int) (k : Int) = some (.int cells[k]) := by
    rw [idx_nat, List.getElem?_map, List.getElem?_eq_getElem hk2]
    rfl
  rw [ix_lst, e]
theorem e_draw {n m : Nat} {b B : Int} {M : Mem} (h : Mc M m B) (hb : 0 < b) (hb2 : b < 1000) (hB : B < 1000000000) : ∃ v M', callN fns (n + 1) 18 [.obj m, .int b] M = .ok (.int v) M' ∧ 0 ≤ v ∧ v < b ∧ Mc M' m (B + 1) ∧ Kp m M M' := by
  obtain ⟨left, seed, spot, next, cells, hM, s1, s2, p1, p2, n1, n2, hc⟩ := h.ex
  by_cases hl : 0 < left
  · refine ⟨left % b, M.set m (mch (left / b) seed spot next cells), ?_, Int.emod_nonneg _ (by omega), Int.emod_lt_of_pos _ hb, ⟨_, _, _, _, _, m_at hM, s1, s2, p1, by omega, n1, by omega, hc⟩, .set⟩
    rw [call__law_draw]
    simp [c__law_draw, m_left hM, hl, mod_ok hb, fdiv_ok (i := left) ⟨hb, show b < 1073741824 by omega⟩, m_set_left hM]
  · have hl' : ¬ (0 < left) := hl
    have hM1 : (M.set m (mch left seed (spot + 1) next cells))[m]? = some (mch left seed (spot + 1) next cells) := m_at hM
    obtain ⟨c, hcell⟩ := cell_get cells spot (M.set m (mch left seed (spot + 1) next cells)) hc p1
    have hlen : 0 < (cells.length : Int) := by
      have := List.length_pos_iff.mpr hc
      omega
    refine ⟨((((((c * (2 * spot + 3) + (seed + 40503 * spot * spot)) % 2147483647) * ((c * (2 * spot + 3) + (seed + 40503 * spot * spot)) % 2147483647) + 69621 * spot + seed) % 2147483629) * 48271 + spot) % 2147483647) / 11 % b, M.set m (mch left seed (spot + 1) next cells), ?_, Int.emod_nonneg _ (by omega), Int.emod_lt_of_pos _ hb, ⟨_, _, _, _, _, hM1, s1, s2, by omega, by omega, n1, by omega, hc⟩, .set⟩
    have hm1 : ∀ M, binD .mul (.int 40503) (.int spot) M = .ok (.int (40503 * spot)) M := fun M => mul_l (by omega)
    have hm2 : ∀ M, binD .mul (.int (40503 * spot)) (.int spot) M = .ok (.int (40503 * spot * spot)) M := fun M => mul_r (by omega)
    have hm3 : ∀ M, binD .mul (.int 2) (.int spot) M = .ok (.int (2 * spot)) M := fun M => mul_l (by omega)
    have hm4 : ∀ M, binD .mul (.int c) (.int (2 * spot + 3)) M = .ok (.int (c * (2 * spot + 3))) M := fun M => mul_r (by omega)
    have hm6 : ∀ M, binD .mul (.int 69621) (.int spot) M = .ok (.int (69621 * spot)) M := fun M => mul_l (by omega)
    have hlong : ∀ (i : Int) M, binD .mod (.int i) (.int 2147483647) M = .ok (.int (i % 2147483647)) M := fun i M => mod_ok (by omega)
    have hlong2 : ∀ (i : Int) M, binD .mod (.int i) (.int 2147483629) M = .ok (.int (i % 2147483629)) M := fun i M => mod_ok (by omega)
    have hdiv : ∀ (i : Int) M, binD .fdiv (.int i) (.int 11) M = .ok (.int (i / 11)) M := fun i M => fdiv_ok (by omega)
    have hml : ∀ (i : Int) M, binD .mod (.int i) (.int (cells.length : Int)) M = .ok (.int (i % (cells.length : Int))) M := fun i M => mod_ok hlen
    have hmb : ∀ (i : Int) M, binD .mod (.int i) (.int b) M = .ok (.int (i % b)) M := fun i M => mod_ok hb
    have hm7 : ∀ (i : Int) M, binD .mul (.int i) (.int 48271) M = .ok (.int (i * 48271)) M := fun i M => mul_r (by omega)
    rw [ix_lst] at hcell
    rw [call__law_draw]
    generalize hx : (c * (2 * spot + 3) + (seed + 40503 * spot * spot)) % 2147483647 = x
    have hx1 : 0 ≤ x := by rw [← hx]; exact Int.emod_nonneg _ (by omega)
    have hx2 : x < 2147483647 := by rw [← hx]; exact Int.emod_lt_of_pos _ (by omega)
    have hm5 : ∀ M, binD .mul (.int x) (.int x) M = .ok (.int (x * x)) M := fun M => mul_r (by omega)
    simp [c__law_draw, m_left hM, hl', m_spot hM, m_set_spot hM, m_cells hM1, m_seed hM1, hm1, hm2, hm3, hm4, hm6, hlong, hlong2, hdiv, hml, hmb, hm7, hcell, hx, hm5]
end K96
set_option autoImplicit false
set_option linter.all false
set_option maxRecDepth 10000
namespace K96
open MP
theorem e_of {n m : Nat} {B : Int} {M : Mem} {l : List D} (h : Mc M m B) (h0 : l ≠ []) (h1 : l.length < 1000) (hB : B < 1000000000) : ∃ d M', callN fns (n + 2) 19 [.obj m, .lst l] M = .ok d M' ∧ d ∈ l ∧ Mc M' m (B + 1) ∧ Kp m M M' := by
  have hl : 0 < l.length := List.length_pos_iff.mpr h0
  obtain ⟨v, M', e, v0, v1, hM, hk⟩ := e_draw (n := n) (b := (l.length : Int)) h (by omega) (by omega) hB
  obtain ⟨k, rfl⟩ := Int.eq_ofNat_of_zero_le v0
  have hk2 : k < l.length := by omega
  refine ⟨l[k], M', ?_, List.getElem_mem hk2, hM, hk⟩
  rw [call__law_of]
  simp [c__law_of, e, idx_nat, List.getElem?_eq_getElem hk2]
@[simp] theorem e_w {n : Nat} {s : List Nat} {M : Mem} : callN fns (n + 1) 20 [.str s] M = .ok (.tup [.str s_name, .str s]) M := by
  rw [call__law_w]
  simp [c__law_w]
theorem gds_all {c : Nat} {l : List Dt} : gds c l = true ↔ ∀ x ∈ l, gd c x = true := by
  induction l with
  | nil => simp [gds]
  | cons a r ih => simp [gds, ih]
theorem dps_le {k : Nat} {l : List Dt} : dps l ≤ k ↔ ∀ x ∈ l, dp x ≤ k := by
  induction l with
  | nil => simp [dps]
  | cons a r ih => simp [dps, Nat.max_le, ih]
theorem wns_app (a b : List Dt) : wns (a ++ b) = wns a + wns b := by
  induction a with
  | nil => simp [wns]
  | cons c r ih => simp only [List.cons_append, wns, ih]; omega
theorem embs_app (a b : List Dt) : embs (a ++ b) = embs a ++ embs b := by
  induction a with
  | nil => simp [embs]
  | cons c r ih => simp only [List.cons_append, embs, ih]
theorem embs_take : ∀ (l : List Dt) (k : Nat), embs (l.take k) = (embs l).take k
  | [], k => by simp [embs]
  | x :: r, 0 => by simp [embs]
  | x :: r, k + 1 => by simp [embs, embs_take r k]
theorem embs_drop : ∀ (l : List Dt) (k : Nat), embs (l.drop k) = (embs l).drop k
  | [], k => by simp [embs]
  | x :: r, 0 => by simp
  | x :: r, k + 1 => by simp [embs, embs_drop r k]
theorem wns_take (l : List Dt) (k : Nat) : wns (l.take k) + wns (l.drop k) = wns l := by
  rw [← wns_app, List.take_append_drop]
theorem wns_le {k : Nat} : ∀ {l : List Dt}, (∀ x ∈ l, wn x ≤ k) → wns l ≤ l.length * k
  | [], _ => by simp [wns]
  | x :: r, h => by
    have h1 := h x (List.mem_cons_self ..)
    have h2 := wns_le (l := r) fun y hy => h y (List.mem_cons_of_mem _ hy)
    simp only [wns, List.length_cons, Nat.add_mul]
    omega
theorem sl_take {l : List D} {k : Nat} {m : Mem} : slD (.lst l) none (some (k : Int)) m = .ok (.lst (l.take k)) m := by
  unfold slD cut loI hiI clampI
  have : ¬ ((k : Int) < 0) := by omega
  simp only [this, if_false, Int.toNat_natCast, Nat.sub_zero, List.drop_zero]
  congr 2
  rcases Nat.le_total k l.length with h | h
  · rw [Nat.min_eq_left h]
  · rw [Nat.min_eq_right h, List.take_of_length_le (Nat.le_refl _), List.take_of_length_le h]
theorem sl_drop {l : List D} {k : Nat} {m : Mem} : slD (.lst l) (some (k : Int)) none m = .ok (.lst (l.drop k)) m := by
  unfold slD cut loI hiI clampI
  have : ¬ ((k : Int) < 0) := by omega
  simp only [this, if_false, Int.toNat_natCast]
  congr 2
  rcases Nat.le_total k l.length with h | h
  · rw [Nat.min_eq_left h, List.take_of_length_le (by simp)]
  · rw [Nat.min_eq_right h, List.drop_eq_nil_of_le (Nat.le_refl _), List.drop_eq_nil_of_le h]
    simp
theorem slt_take {l : List D} {k : Nat} {m : Mem} : slD (.tup l) none (some (k : Int)) m = .ok (.tup (l.take k)) m := by
  have := sl_take (l := l) (k := k) (m := m)
  unfold slD at *
  simp only at *
  injection this with a
  injection a with a
  rw [a]
theorem slt_drop {l : List D} {k : Nat} {m : Mem} : slD (.tup l) (some (k : Int)) none m = .ok (.tup (l.drop k)) m := by
  have := sl_drop (l := l) (k := k) (m := m)
  unfold slD at *
  simp only at *
  injection this with a
  injection a with a
  rw [a]
theorem add_lst {a b : List D} {m : Mem} (h : a.length + b.length < 1000000) : binD .add (.lst a) (.lst b) m = .ok (.lst (a ++ b)) m := by
  have h2 : a.length + b.length ≤ line := Nat.le_trans (Nat.le_of_lt h) (by decide)
  unfold binD
  simp only [itemsOf]
  rw [if_pos (decide_eq_true h2)]
theorem add_tup {a b : List D} {m : Mem} (h : a.length + b.length < 1000000) : binD .add (.tup a) (.tup b) m = .ok (.tup (a ++ b)) m := by
  have h2 : a.length + b.length ≤ line := Nat.le_trans (Nat.le_of_lt h) (by decide)
  unfold binD
  simp only
  rw [if_pos (decide_eq_true h2)]
/-- a comprehension of drawn data -/
theorem comp_draws {cf : CF} {t : Tg} {rw : Env} {e : Ex} {Q : Dt → Prop} {m : Nat} {K : Nat} {L : Int} (hstep : ∀ (i : Int) (M : Mem) (B : Int), Mc M m B → B + K < L → ∃ r1 x M', tgt t (.int i) rw = some r1 ∧ ev cf e r1 M = .ok (emb x) M' ∧ Q x ∧ Mc M' m (B + K) ∧ Kp m M M') :
    ∀ (l : List Int) (acc : List D) (M : Mem) (B : Int), Mc M m B → B + (K * l.length : Nat) < L → acc.length + l.length < 1000000 →
    ∃ xs M', compL t rw (fun r m => evTests cf [] r m) (fun r m => ev cf e r m) (l.map D.int) acc M = .ok (acc ++ embs xs) M' ∧ xs.length = l.length ∧ (∀ x ∈ xs, Q x) ∧ Mc M' m (B + (K * l.length : Nat)) ∧ Kp m M M'
  | [], acc, M, B, h, hB, hl => ⟨[], M, by simp [compL, embs], rfl, fun x hx => (by cases hx), h.le (by omega), .refl m M⟩
  | i :: l, acc, M, B, h, hB, hl => by
    simp only [List.length_cons, Nat.mul_add, Nat.mul_one] at hB hl
    obtain ⟨r1, x, M1, h1, h2, hq, hm, hk⟩ := hstep i M B h (by omega)
    obtain ⟨xs, M2, he, hlen, hQ, hm2, hk2⟩ := comp_draws hstep l (acc ++ [emb x]) M1 (B + K) hm (by omega) (by simp; omega)
    refine ⟨x :: xs, M2, ?_, by simp [hlen], ?_, hm2.le (by simp only [List.length_cons, Nat.mul_add, Nat.mul_one]; omega), hk.trans hk2⟩
    · have hlt : acc.length < line := Nat.lt_trans (show acc.length < 1000000 by omega) (by decide)
      show (match tgt t (.int i) rw with
        | none => R.stop
        | some r1 => match evTests cf [] r1 M with
          | .stop => .stop
          | .ok false m1 => compL t rw (fun r m => evTests cf [] r m) (fun r m => ev cf e r m) (l.map D.int) acc m1
          | .ok true m1 => match ev cf e r1 m1 with
            | .stop => .stop
            | .ok x m2 => if acc.length < line then compL t rw (fun r m => evTests cf [] r m) (fun r m => ev cf e r m) (l.map D.int) (acc ++ [x]) m2 else .stop) = _
      rw [h1]
      show (match ev cf e r1 M with
            | .stop => R.stop
            | .ok x m2 => if acc.length < line then compL t rw (fun r m => evTests cf [] r m) (fun r m => ev cf e r m) (l.map D.int) (acc ++ [x]) m2 else .stop) = _
      rw [h2]
      show (if acc.length < line then compL t rw (fun r m => evTests cf [] r m) (fun r m => ev cf e r m) (l.map D.int) (acc ++ [emb x]) M1 else .stop) = _
      rw [if_pos hlt, he, embs, List.append_assoc]
      rfl
    · intro y hy
      rcases List.mem_cons.mp hy with rfl | hy
      · exact hq
      · exact hQ y hy
theorem int_text {i : Int} (h0 : 0 ≤ i) (h : i < 10000000000) : (intText i).length ≤ 10 := by
  unfold intText natDigits
  have h1 : ¬ (i < 0) := by omega
  simp only [h1, if_false, List.length_map]
  exact (Nat.length_toDigits_le_iff (by omega) (by omega)).mpr (by omega)
/-! ### drawn patterns -/
def ps3 : St := .ite (.cmp .lt (.v 2) (.k (.int 2))) [
    .setix (.v 0) (.k (.str s_next)) (.bin .add (.ix (.v 0) (.k (.str s_next))) (.k (.int 1))),
    .ret (.call 20 [(.bin .add (.k (.str s_p)) (.bi .str [(.ix (.v 0) (.k (.str s_next)))]))])] []
def ps4 : St := .ite (.cmp .lt (.v 2) (.k (.int 4))) [
    .ret (.call 19 [(.v 0), (.lst false [(.call 20 [(.k (.str s_lit))]), (.call 20 [(.k (.str s___1))]), (.k (.int 5)), (.k (.bl true)), (.tup [])])])] []
def ps5 : St := .set 3 (.comp false [6] (.v 6) (.range1 (.bin .add (.k (.int 1)) (.call 18 [(.v 0), (.k (.int 3))]))) [] (.call 28 [(.v 0), (.bin .sub (.v 1) (.k (.int 1)))]))
def ps6 : St := .ite (.cmp .eq (.call 18 [(.v 0), (.k (.int 2))]) (.k (.int 0))) [
    .set 4 (.bin .add (.k (.int 1)) (.call 18 [(.v 0), (.bi .len [(.v 3)])])),
    .set 3 (.bin .add (.bin .add (.sl (.v 3) [] [(.v 4)]) (.lst false [(.call 20 [(.k (.str s__))])])) (.sl (.v 3) [(.v 4)] []))] []
def ps7 : St := .set 5 (.ite (.cmp .eq (.call 18 [(.v 0), (.k (.int 4))]) (.k (.int 0))) (.call 28 [(.v 0), (.k (.int 0))]) (.tup []))
theorem pat_code : c__law_pattern = [.set 2 (.ite (.cmp .gt (.v 1) (.k (.int 0))) (.call 18 [(.v 0), (.k (.int 7))]) (.call 18 [(.v 0), (.k (.int 4))])), ps3, ps4, ps5, ps6, ps7,
  .ret (.tup [(.k (.str s_list)), (.bi .tuple [(.v 3)]), (.v 5)])] := rfl
def pw : Nat → Nat
  | 0 => 1
  | s + 1 => 3 * pw s + 3
def pd : Nat → Nat
  | 0 => 2
  | s + 1 => 3 * pd s + 7
structure Gp (s : Nat) (x : Dt) : Prop where
  g : gd 7 x = true
  d : dp x ≤ s
  w : wn x ≤ pw s
theorem pw_pos (s : Nat) : 1 ≤ pw s := by cases s <;> simp [pw]
theorem Gp.atom {s : Nat} {x : Dt} (h : isL x = false) (g : gd 7 x = true) : Gp s x := by
  have := pw_pos s
  refine ⟨g, ?_, ?_⟩
  · cases x <;> simp [dp, isL] at *
  · cases x <;> simp [wn, isL] at * <;> exact this
theorem Gp.up {s : Nat} {x : Dt} (h : Gp s x) : Gp (s + 1) x := ⟨h.g, by have := h.d; omega, by have := h.w; simp only [pw]; omega⟩
theorem pat_word {n m : Nat} {B : Int} {M : Mem} {a1 : D} {e3 e4 e5 e6 : Option D} {v : Int} (h : Mc M m B) (hB : B < 1000000000) (hv : v < 2) : ∃ s M', evS (callN fns (n + 1)) ps3 [some (.obj m), some a1, some (.int v), e3, e4, e5, e6] M = .rt (emb (.wrd s)) M' ∧ s.length ≤ 40 ∧ Mc M' m (B + 1) ∧ Kp m M M' := by
  obtain ⟨left, seed, spot, next, cells, hM, s1, s2, p1, p2, n1, n2, hc⟩ := h.ex
  have hM1 : (M.set m (mch left seed spot (next + 1) cells))[m]? = some (mch left seed spot (next + 1) cells) := m_at hM
  have hlen := int_text (i := next + 1) (by omega) (by omega)
  refine ⟨s_p ++ intText (next + 1), M.set m (mch left seed spot (next + 1) cells), ?_, ?_, ⟨_, _, _, _, _, hM1, s1, s2, p1, by omega, by omega, by omega, hc⟩, .set⟩
  · have hst : ∀ M, biD .str [.int (next + 1)] M = .ok (.str (intText (next + 1))) M := fun M => by
      have h40 : (next + 1).natAbs < 10 ^ 40 := Nat.lt_trans (show (next + 1).natAbs < 10000000000 by omega) (by decide)
      unfold biD
      simp only [decide_eq_true h40, if_true]
    have hadd : ∀ M, binD .add (.str s_p) (.str (intText (next + 1))) M = .ok (.str (s_p ++ intText (next + 1))) M := fun M => by
      have hl : s_p.length + (intText (next + 1)).length ≤ line := Nat.le_trans (show s_p.length + (intText (next + 1)).length ≤ 100 by rw [show s_p.length = 1 from rfl]; omega) (by decide)
      unfold binD
      simp only [decide_eq_true hl, if_true]
    simp [ps3, hv, m_next hM, m_set_next hM, m_next hM1, hst, hadd, emb]
  · rw [List.length_append, show s_p.length = 1 from rfl]
    omega
theorem pat_atom {n m : Nat} {B : Int} {M : Mem} {a1 : D} {e3 e4 e5 e6 : Option D} {v : Int} (h : Mc M m B) (hB : B < 1000000000) (hv : v < 4) : ∃ x M', evS (callN fns (n + 2)) ps4 [some (.obj m), some a1, some (.int v), e3, e4, e5, e6] M = .rt (emb x) M' ∧ isL x = false ∧ gd 7 x = true ∧ Mc M' m (B + 1) ∧ Kp m M M' := by
  obtain ⟨d, M', e, hd, hm, hk⟩ := e_of (n := n) (l := [emb (.wrd s_lit), emb (.wrd s___1), emb (.num 5), emb .tru, emb .nil]) h (by simp) (by simp) hB
  have hx : ∃ x, d = emb x ∧ isL x = false ∧ gd 7 x = true := by
    simp only [List.mem_cons, List.not_mem_nil, or_false] at hd
    rcases hd with rfl | rfl | rfl | rfl | rfl
    · exact ⟨.wrd s_lit, rfl, rfl, rfl⟩
    · exact ⟨.wrd s___1, rfl, rfl, rfl⟩
    · exact ⟨.num 5, rfl, rfl, rfl⟩
    · exact ⟨.tru, rfl, rfl, rfl⟩
    · exact ⟨.nil, rfl, rfl, rfl⟩
  obtain ⟨x, rfl, x1, x2⟩ := hx
  simp only [emb] at e
  refine ⟨x, M', ?_, x1, x2, hm, hk⟩
  simp [ps4, hv, e]
end K96
set_option autoImplicit false
set_option linter.all false
set_option maxRecDepth 10000
namespace K96
open MP
def ps1 : St := .set 2 (.ite (.cmp .gt (.v 1) (.k (.int 0))) (.call 18 [(.v 0), (.k (.int 7))]) (.call 18 [(.v 0), (.k (.int 4))]))
def ps8 : St := .ret (.tup [(.k (.str s_list)), (.bi .tuple [(.v 3)]), (.v 5)])
theorem pat_run {n m : Nat} {s : Int} {M : Mem} {R : R D} (h : (match evSs (callN fns n) [ps1, ps3, ps4, ps5, ps6, ps7, ps8] [some (.obj m), some (.int s), none, none, none, none, none] M with
      | .nx _ m1 => MP.R.ok D.non m1
      | .rt d m1 => MP.R.ok d m1
      | _ => MP.R.stop) = R) : callN fns (n + 1) 28 [.obj m, .int s] M = R := by
  rw [call__law_pattern, run_fn rfl, ← h]
  rfl
def patE (m : Nat) (s v : Int) : Env := [some (.obj m), some (.int s), some (.int v), none, none, none, none]
theorem pat_skip3 {cf : CF} {m : Nat} {s v : Int} {M : Mem} (h : ¬ v < 2) : evS cf ps3 (patE m s v) M = .nx (patE m s v) M := by
  simp [ps3, patE, h]
theorem pat_skip4 {cf : CF} {m : Nat} {s v : Int} {M : Mem} (h : ¬ v < 4) : evS cf ps4 (patE m s v) M = .nx (patE m s v) M := by
  simp [ps4, patE, h]
theorem pat_small {n m : Nat} {B s v : Int} {M M1 : Mem} {rest : List St} (h1 : evS (callN fns (n + 2)) ps1 [some (.obj m), some (.int s), none, none, none, none, none] M = .nx (patE m s v) M1) (hv : v < 4) (h : Mc M1 m B) (hB : B < 1000000000) (hk : Kp m M M1) :
    ∃ x M', (match evSs (callN fns (n + 2)) (ps1 :: ps3 :: ps4 :: rest) [some (.obj m), some (.int s), none, none, none, none, none] M with
      | .nx _ m1 => MP.R.ok D.non m1
      | .rt d m1 => MP.R.ok d m1
      | _ => MP.R.stop) = .ok (emb x) M' ∧ isL x = false ∧ gd 7 x = true ∧ Mc M' m (B + 1) ∧ Kp m M M' := by
  by_cases hv2 : v < 2
  · obtain ⟨w, M', e, hw, hm, hk2⟩ := pat_word (n := n + 1) (a1 := .int s) (e3 := none) (e4 := none) (e5 := none) (e6 := none) (v := v) h hB hv2
    refine ⟨.wrd w, M', ?_, rfl, by simpa [gd] using hw, hm, hk.trans hk2⟩
    simp only [evSs_cons, h1]
    unfold patE
    rw [e]
  · obtain ⟨x, M', e, x1, x2, hm, hk2⟩ := pat_atom (n := n) (a1 := .int s) (e3 := none) (e4 := none) (e5 := none) (e6 := none) (v := v) h hB hv
    refine ⟨x, M', ?_, x1, x2, hm, hk.trans hk2⟩
    simp only [evSs_cons, h1, pat_skip3 hv2]
    unfold patE
    rw [e]
theorem pat_0 {n m : Nat} {B : Int} {M : Mem} (hn : 3 ≤ n) (h : Mc M m B) (hB : B + 2 < 900000000) : ∃ x M', callN fns (n + 1) 28 [.obj m, .int 0] M = .ok (emb x) M' ∧ Gp 0 x ∧ Mc M' m (B + 2) ∧ Kp m M M' := by
  obtain ⟨n2, rfl⟩ : ∃ n2, n = n2 + 3 := ⟨n - 3, by omega⟩
  obtain ⟨v, M1, e, v0, v1, hm, hk⟩ := e_draw (n := n2 + 2) (b := 4) h (by omega) (by omega) (by omega)
  have h1 : evS (callN fns (n2 + 3)) ps1 [some (.obj m), some (.int 0), none, none, none, none, none] M = .nx (patE m 0 v) M1 := by
    simp [ps1, e, patE]
  obtain ⟨x, M', e2, x1, x2, hm2, hk2⟩ := pat_small (n := n2 + 1) (rest := [ps5, ps6, ps7, ps8]) h1 v1 hm (by omega) hk
  exact ⟨x, M', pat_run e2, .atom x1 x2, hm2.le (by omega), hk2⟩
theorem range_ints (j : Int) : intRange 0 j = ((List.range j.toNat).map fun (k : Nat) => (k : Int)).map D.int := by
  unfold intRange
  rw [List.map_map, Int.sub_zero]
  refine List.map_congr_left fun k _ => ?_
  simp
theorem small_of {j : Int} (h0 : 0 ≤ j) (h : j < 1000000000) : small62 j = true := by
  unfold small62
  rw [decide_eq_true_eq, show ((2 : Int) ^ 62) = 4611686018427387904 from rfl]
  omega
theorem pat_items {n m s : Nat} {v B : Int} {M : Mem} (h : Mc M m B) (hB : B + 3 * pd s + 5 < 800000000)
    (ih : ∀ M B, Mc M m B → B + pd s < 800000000 → ∃ x M', callN fns (n + 1) 28 [.obj m, .int (s : Int)] M = .ok (emb x) M' ∧ Gp s x ∧ Mc M' m (B + pd s) ∧ Kp m M M') (hs : pd s < 100000) :
    ∃ xs M', evS (callN fns (n + 1)) ps5 (patE m ((s : Int) + 1) v) M = .nx [some (.obj m), some (.int ((s : Int) + 1)), some (.int v), some (.lst (embs xs)), none, none, none] M' ∧ 1 ≤ xs.length ∧ xs.length ≤ 3 ∧ (∀ x ∈ xs, Gp s x) ∧ Mc M' m (B + 1 + 3 * pd s) ∧ Kp m M M' := by
  obtain ⟨w, M1, e, w0, w1, hm, hk⟩ := e_draw (n := n) (b := 3) h (by omega) (by omega) (by omega)
  obtain ⟨k, rfl⟩ := Int.eq_ofNat_of_zero_le w0
  have hi : evIt (callN fns (n + 1)) (.range1 (.bin .add (.k (.int 1)) (.call 18 [(.v 0), (.k (.int 3))]))) (patE m ((s : Int) + 1) v) M = .ok (.vals (intRange 0 (1 + (k : Int)))) M1 := by
    rw [evIt_range1]
    have := small_of (j := 1 + (k : Int)) (by omega) (by omega)
    simp [patE, e, this]
  have hstep : ∀ (i : Int) (M : Mem) (B : Int), Mc M m B → B + pd s < 800000000 → ∃ r1 x M', tgt (.v 6) (.int i) (wipeE (patE m ((s : Int) + 1) v) [6]) = some r1 ∧ ev (callN fns (n + 1)) (.call 28 [(.v 0), (.bin .sub (.v 1) (.k (.int 1)))]) r1 M = .ok (emb x) M' ∧ Gp s x ∧ Mc M' m (B + pd s) ∧ Kp m M M' := by
    intro i M B h hB
    obtain ⟨x, M', e, hx, hm, hk⟩ := ih M B h (by omega)
    refine ⟨_, x, M', rfl, ?_, hx, hm, hk⟩
    have : (s : Int) + 1 - 1 = (s : Int) := by omega
    simp [patE, this, e]
  have hlen : ((List.range (1 + (k : Int)).toNat).map fun (k : Nat) => (k : Int)).length = k + 1 := by
    simp
    omega
  have hK : pd s * (k + 1) ≤ 3 * pd s := by
    rw [Nat.mul_comm]
    exact Nat.mul_le_mul_right _ (by omega)
  obtain ⟨xs, M2, e2, hl, hQ, hm2, hk2⟩ := comp_draws (t := .v 6) (rw := wipeE (patE m ((s : Int) + 1) v) [6]) (Q := Gp s) (K := pd s) hstep ((List.range (1 + (k : Int)).toNat).map fun (k : Nat) => (k : Int)) [] M1 (B + 1) hm (by rw [hlen]; omega) (by rw [hlen]; simp; omega)
  rw [← range_ints, List.nil_append] at e2
  rw [hlen] at hl hm2
  have hc : ev (callN fns (n + 1)) (.comp false [6] (.v 6) (.range1 (.bin .add (.k (.int 1)) (.call 18 [(.v 0), (.k (.int 3))]))) [] (.call 28 [(.v 0), (.bin .sub (.v 1) (.k (.int 1)))])) (patE m ((s : Int) + 1) v) M = .ok (.lst (embs xs)) M2 := by
    rw [ev_comp, hi]
    simp only
    rw [e2]
    rfl
  refine ⟨xs, M2, ?_, by omega, by omega, hQ, hm2.le (by omega), hk.trans hk2⟩
  unfold ps5
  rw [evS_set, hc]
  rfl
theorem pat_mark {n m : Nat} {a1 a2 : D} {B : Int} {M : Mem} {xs : List Dt} (h : Mc M m B) (hB : B + 10 < 900000000) (h1 : 1 ≤ xs.length) (h3 : xs.length ≤ 100) :
    ∃ ys e4 M', evS (callN fns (n + 1)) ps6 [some (.obj m), some a1, some a2, some (.lst (embs xs)), none, none, none] M = .nx [some (.obj m), some a1, some a2, some (.lst (embs ys)), e4, none, none] M' ∧ 1 ≤ ys.length ∧ ys.length ≤ xs.length + 1 ∧ (∀ x ∈ ys, x ∈ xs ∨ x = .wrd s__) ∧ wns ys ≤ wns xs + 1 ∧ Mc M' m (B + 2) ∧ Kp m M M' := by
  obtain ⟨w, M1, e, w0, w1, hm, hk⟩ := e_draw (n := n) (b := 2) h (by omega) (by omega) (by omega)
  by_cases hw : w = 0
  · subst hw
    obtain ⟨u, M2, e2, u0, u1, hm2, hk2⟩ := e_draw (n := n) (b := (xs.length : Int)) hm (by omega) (by omega) (by omega)
    obtain ⟨k, rfl⟩ := Int.eq_ofNat_of_zero_le u0
    have hk1 : (1 : Int) + (k : Int) = ((1 + k : Nat) : Int) := by omega
    refine ⟨xs.take (1 + k) ++ [.wrd s__] ++ xs.drop (1 + k), some (.int ((1 + k : Nat) : Int)), M2, ?_, by simp; omega, by simp; omega, ?_, ?_, hm2.le (by omega), hk.trans hk2⟩
    · have ht : slD (.lst (embs xs)) none (some ((1 + k : Nat) : Int)) M2 = .ok (.lst (embs (xs.take (1 + k)))) M2 := by rw [sl_take, embs_take]
      have hd : slD (.lst (embs xs)) (some ((1 + k : Nat) : Int)) none M2 = .ok (.lst (embs (xs.drop (1 + k)))) M2 := by rw [sl_drop, embs_drop]
      have ha : binD .add (.lst (embs (xs.take (1 + k)))) (.lst [.tup [.str s_name, .str s__]]) M2 = .ok (.lst (embs (xs.take (1 + k) ++ [.wrd s__]))) M2 := by
        rw [add_lst (by rw [embs_len]; simp; omega), embs_app]
        rfl
      have hb : binD .add (.lst (embs (xs.take (1 + k) ++ [.wrd s__]))) (.lst (embs (xs.drop (1 + k)))) M2 = .ok (.lst (embs (xs.take (1 + k) ++ [.wrd s__] ++ xs.drop (1 + k)))) M2 := by
        rw [add_lst (by rw [embs_len, embs_len]; simp; omega), embs_app _ (xs.drop (1 + k))]
      have ht0 : ev (callN fns (n + 1)) (.cmp .eq (.call 18 [(.v 0), (.k (.int 2))]) (.k (.int 0))) [some (.obj m), some a1, some a2, some (.lst (embs xs)), none, none, none] M = .ok (.bl true) M1 := by simp [e]
      have hs1 : evS (callN fns (n + 1)) (.set 4 (.bin .add (.k (.int 1)) (.call 18 [(.v 0), (.bi .len [(.v 3)])]))) [some (.obj m), some a1, some a2, some (.lst (embs xs)), none, none, none] M1 = .nx [some (.obj m), some a1, some a2, some (.lst (embs xs)), some (.int ((1 + k : Nat) : Int)), none, none] M2 := by
        simp [e2]
      have hs2 : ev (callN fns (n + 1)) (.bin .add (.bin .add (.sl (.v 3) [] [(.v 4)]) (.lst false [(.call 20 [(.k (.str s__))])])) (.sl (.v 3) [(.v 4)] [])) [some (.obj m), some a1, some a2, some (.lst (embs xs)), some (.int ((1 + k : Nat) : Int)), none, none] M2 = .ok (.lst (embs (xs.take (1 + k) ++ [.wrd s__] ++ xs.drop (1 + k)))) M2 := by
        simp only [ev_bin, ev_sl, ev_v, evs_nil, evs_cons, List.getElem?_cons_zero, List.getElem?_cons_succ, boundOf, ht, hd, ev_lst, ev_call, ev_k, e_w]
        rw [show okLen [.tup [.str s_name, .str s__]] = true from rfl]
        simp only [if_true, ha, hd, hb]
      simp only [ps6, evS_ite, ht0, test_ok', truth_b, evSs_cons, evSs_nil, hs1, evS_set, hs2]
      rfl
    · intro x hx
      simp only [List.mem_append, List.mem_singleton] at hx
      rcases hx with (hx | hx) | hx
      · exact .inl (List.mem_of_mem_take hx)
      · exact .inr hx
      · exact .inl (List.mem_of_mem_drop hx)
    · have := wns_take xs (1 + k)
      rw [wns_app, wns_app]
      simp only [wns, wn]
      omega
  · have hw' : (w == 0) = false := by simpa using hw
    refine ⟨xs, none, M1, ?_, h1, by omega, fun x hx => .inl hx, by omega, hm.le (by omega), hk⟩
    simp [ps6, e, hw']
theorem pat_tail {n m : Nat} {a1 a2 : D} {e3 e4 : Option D} {B : Int} {M : Mem} (hn : 3 ≤ n) (h : Mc M m B) (hB : B + 10 < 900000000) :
    ∃ x M', evS (callN fns (n + 1)) ps7 [some (.obj m), some a1, some a2, e3, e4, none, none] M = .nx [some (.obj m), some a1, some a2, e3, e4, some (emb x), none] M' ∧ Gp 0 x ∧ Mc M' m (B + 3) ∧ Kp m M M' := by
  obtain ⟨w, M1, e, w0, w1, hm, hk⟩ := e_draw (n := n) (b := 4) h (by omega) (by omega) (by omega)
  by_cases hw : w = 0
  · subst hw
    obtain ⟨x, M2, e2, hx, hm2, hk2⟩ := pat_0 hn hm (by omega)
    refine ⟨x, M2, ?_, hx, hm2.le (by omega), hk.trans hk2⟩
    simp [ps7, e, e2]
  · have hw' : (w == 0) = false := by simpa using hw
    refine ⟨.nil, M1, ?_, .atom rfl rfl, hm.le (by omega), hk⟩
    simp [ps7, e, hw', emb]
theorem e_pat {m : Nat} : ∀ (s n : Nat) (M : Mem) (B : Int), s ≤ 5 → s + 3 ≤ n → Mc M m B → B + pd s < 800000000 → ∃ x M', callN fns (n + 1) 28 [.obj m, .int (s : Int)] M = .ok (emb x) M' ∧ Gp s x ∧ Mc M' m (B + pd s) ∧ Kp m M M'
  | 0, n, M, B, h5, hn, h, hB => pat_0 (by omega) h (by simp only [pd] at hB; omega)
  | s + 1, n, M, B, h5, hn, h, hB => by
    have hpd : pd s < 10000 := by
      have : ∀ k, k ≤ 4 → pd k < 10000 := by decide
      exact this s (by omega)
    have hB : B + (3 * pd s + 7 : Nat) < 800000000 := hB
    obtain ⟨n2, rfl⟩ : ∃ n2, n = n2 + 2 := ⟨n - 2, by omega⟩
    obtain ⟨v, M1, e, v0, v1, hm, hk⟩ := e_draw (n := n2 + 1) (b := 7) h (by omega) (by omega) (by omega)
    have hs1 : ((s + 1 : Nat) : Int) = (s : Int) + 1 := by omega
    have hpos : (0 : Int) < (s : Int) + 1 := by omega
    have h1 : evS (callN fns (n2 + 2)) ps1 [some (.obj m), some (.int ((s : Int) + 1)), none, none, none, none, none] M = .nx (patE m ((s : Int) + 1) v) M1 := by
      simp [ps1, e, patE, hpos]
    rw [hs1]
    by_cases hv : v < 4
    · obtain ⟨x, M', e2, x1, x2, hm2, hk2⟩ := pat_small (n := n2) (rest := [ps5, ps6, ps7, ps8]) h1 hv hm (by omega) hk
      exact ⟨x, M', pat_run e2, .atom x1 x2, hm2.le (by simp only [pd]; omega), hk2⟩
    · have hv2 : ¬ v < 2 := by omega
      have ih : ∀ M B, Mc M m B → B + pd s < 800000000 → ∃ x M', callN fns (n2 + 2) 28 [.obj m, .int (s : Int)] M = .ok (emb x) M' ∧ Gp s x ∧ Mc M' m (B + pd s) ∧ Kp m M M' := fun M B h hB => e_pat s (n2 + 1) M B (by omega) (by omega) h hB
      obtain ⟨xs, M2, e5, x1, x3, hxs, hm2, hk2⟩ := pat_items (n := n2 + 1) (s := s) (v := v) hm (by omega) ih (by omega)
      obtain ⟨ys, e4, M3, e6, y1, y4, hys, hwy, hm3, hk3⟩ := pat_mark (n := n2 + 1) (a1 := .int ((s : Int) + 1)) (a2 := .int v) (xs := xs) hm2 (by omega) x1 (by omega)
      obtain ⟨t, M4, e7, ht, hm4, hk4⟩ := pat_tail (n := n2 + 1) (a1 := .int ((s : Int) + 1)) (a2 := .int v) (e3 := some (.lst (embs ys))) (e4 := e4) (by omega) hm3 (by omega)
      have hall : ∀ y ∈ ys, Gp s y := fun y hy => by
        rcases hys y hy with h | rfl
        · exact hxs y h
        · exact .atom rfl rfl
      have hwx : wns xs ≤ 3 * pw s := Nat.le_trans (wns_le fun x hx => (hxs x hx).w) (Nat.mul_le_mul_right _ x3)
      refine ⟨.lst ys t, M4, pat_run ?_, ⟨?_, ?_, ?_⟩, hm4.le (by simp only [pd]; omega), ((hk.trans hk2).trans hk3).trans hk4⟩
      · simp only [evSs_cons, h1, pat_skip3 hv2, pat_skip4 hv, e5, e6, e7]
        have hok : okLen [D.str s_list, .tup (embs ys), emb t] = true := rfl
        simp [ps8, emb]
      · simp only [gd, Bool.and_eq_true, decide_eq_true_eq]
        refine ⟨?_, by omega, gds_all.mpr fun y hy => (hall y hy).g, ht.g⟩
        cases ys with
        | nil => simp at y1
        | cons a r => rfl
      · have h1 : dps ys ≤ s := dps_le.mpr fun y hy => (hall y hy).d
        have h2 := ht.d
        simp only [dp]
        omega
      · have h2 := ht.w
        simp only [pw] at h2
        simp only [wn, pw]
        omega
end K96
set_option autoImplicit false
set_option linter.all false
set_option maxRecDepth 10000
namespace K96
open MP
theorem mem_ins (a : List Nat) : ∀ (l : List (List Nat)) (x : List Nat), x ∈ insS a l → x = a ∨ x ∈ l
  | [], x, h => by simpa [insS] using h
  | y :: r, x, h => by
    simp only [insS] at h
    split at h
    · rcases List.mem_cons.mp h with h | h
      · exact .inr (by rw [h]; exact List.mem_cons_self)
      · rcases mem_ins a r x h with h | h
        · exact .inl h
        · exact .inr (List.mem_cons_of_mem _ h)
    · rcases List.mem_cons.mp h with h | h
      · exact .inl h
      · exact .inr h
theorem mem_sort : ∀ (l : List (List Nat)) (x : List Nat), x ∈ sortS l → x ∈ l
  | [], x, h => by simp [sortS] at h
  | y :: r, x, h => by
    simp only [sortS] at h
    rcases mem_ins y (sortS r) x h with h | h
    · rw [h]; exact List.mem_cons_self
    · exact List.mem_cons_of_mem _ (mem_sort r x h)
theorem len_ins (a : List Nat) : ∀ l : List (List Nat), (insS a l).length = l.length + 1
  | [] => rfl
  | y :: r => by
    simp only [insS]
    split
    · simp [len_ins a r]
    · rfl
theorem len_sort : ∀ l : List (List Nat), (sortS l).length = l.length
  | [] => rfl
  | y :: r => by simp [sortS, len_ins, len_sort r]
theorem as_strs : ∀ l : List (List Nat), asStrs (l.map D.str) = some l
  | [] => rfl
  | x :: r => by simp [asStrs, as_strs r]
theorem sorted_strs (l : List (List Nat)) (m : Mem) : biD .sorted [strL l] m = .ok (strL (sortS l)) m := by
  unfold biD strL
  simp only [as_strs]
/-! ### a comprehension over the names -/
theorem lock_on {M : Mem} {o : Nat} {nm : NM} (h : At M o nm) : lock true o M = M.set o (.dct false (nms nm) true) := by
  unfold At at h
  unfold lock
  simp only [h]
theorem lock_off {M : Mem} {o : Nat} {nm : NM} (h : At M o nm) : lock false o (M.set o (.dct false (nms nm) true)) = M := by
  have hlt : o < M.length := (List.getElem?_eq_some_iff.mp h).1
  unfold lock
  simp only [List.getElem?_set_self hlt, List.set_set]
  exact at_same h
theorem keys_comp {cf : CF} {test : Ex} {P : List Nat → Bool} {r : Env} {M : Mem} {o : Nat} {nm : NM} (ha : At M o nm) (h1 : r[1]? = some (some (.obj o))) (hl : nm.length < 100000)
    (ht : ∀ s ∈ nm.map (·.1), ev cf test ((r.set 9 none).set 9 (some (.str s))) (M.set o (.dct false (nms nm) true)) = .ok (.bl (P s)) (M.set o (.dct false (nms nm) true)))
    (h9 : 9 < r.length) : ev cf (.comp false [9] (.v 9) (.keys 1) [test] (.v 9)) r M = .ok (strL ((nm.map (·.1)).filter P)) M := by
  have hi : evIt cf (.keys 1) r M = .ok (.keys o) M := by
    show (match r[1]? with
    | some (some (.obj o)) => (match M[o]? with
      | some (.dct _ _ false) => R.ok (Sq.keys o) M
      | _ => .stop)
    | _ => .stop) = _
    unfold At at ha
    simp only [h1, ha]
  have ha2 := ha
  unfold At at ha2
  rw [ev_comp, hi]
  simp only [ha2]
  rw [lock_on ha]
  have hk : (nms nm).map (·.1) = (nm.map (·.1)).map D.str := by simp [nms]
  rw [hk, compL_filter (P := fun d => match d with | .str s => P s | _ => false) _ _ (fun z hz => ?_) (by simp [line]; omega)]
  · simp only
    rw [lock_off ha]
    have hf : ((nm.map (·.1)).map D.str).filter (fun d => match d with | .str s => P s | _ => false) = ((nm.map (·.1)).filter P).map D.str := by
      rw [List.filter_map]
      rfl
    rw [hf]
    rfl
  · obtain ⟨s, hs, rfl⟩ := List.mem_map.mp hz
    refine ⟨(r.set 9 none).set 9 (some (.str s)), rfl, ?_, ?_⟩
    · show (match testOf (ev cf test ((r.set 9 none).set 9 (some (.str s))) (M.set o (.dct false (nms nm) true))) with
        | .ok true m1 => evTests cf [] _ m1
        | .ok false m1 => .ok false m1
        | .stop => R.stop) = _
      rw [ht s hs]
      simp only [test_ok', truth_b]
      cases hP : P s
      · rfl
      · rfl
    · show (match ((r.set 9 none).set 9 (some (.str s)))[9]? with | some (some d) => R.ok d _ | _ => .stop) = _
      rw [List.getElem?_set_self (by simpa using h9)]
theorem dOf_mem {nm : NM} {s : List Nat} (h : s ∈ nm.map (·.1)) : ∃ e, dOf nm s = some e := by
  have h2 : has nm s = true := by
    obtain ⟨q, hq, rfl⟩ := List.mem_map.mp h
    unfold has
    exact List.any_eq_true.mpr ⟨q, hq, by simp⟩
  rw [← has_some] at h2
  exact Option.isSome_iff_exists.mp h2
theorem ix_lock {M : Mem} {o : Nat} {nm : NM} (ha : At M o nm) {s : List Nat} {e : Nat} (h : dOf nm s = some e) : ixD (.obj o) (.str s) (M.set o (.dct false (nms nm) true)) = .ok (.int (e : Int)) (M.set o (.dct false (nms nm) true)) := by
  have hlt : o < M.length := (List.getElem?_eq_some_iff.mp ha).1
  have hlk := look_nms nm s
  unfold ixD
  simp only [List.getElem?_set_self hlt]
  have h1 : isKey (.str s) = true := rfl
  have h2 : isTupKey (.str s) = false := rfl
  simp [h1, h2, hlk, h]
def isAt (nm : NM) (d : Nat) (s : List Nat) : Bool := (dOf nm s).any fun e => e == d
def isOver (nm : NM) (d : Nat) (s : List Nat) : Bool := (dOf nm s).any fun e => decide (d < e)
def hereOf (nm : NM) (d : Nat) : List (List Nat) := sortS ((nm.map (·.1)).filter (isAt nm d))
def deepOf (nm : NM) (d : Nat) : List (List Nat) := sortS ((nm.map (·.1)).filter (isOver nm d))
def ts1 : St := .set 4 (.bi .sorted [(.comp false [9] (.v 9) (.keys 1) [(.cmp .eq (.ix (.v 1) (.v 9)) (.v 2))] (.v 9))])
def ts2 : St := .set 5 (.bi .sorted [(.comp false [9] (.v 9) (.keys 1) [(.cmp .gt (.ix (.v 1) (.v 9)) (.v 2))] (.v 9))])
theorem t_here {cf : CF} {m o d : Nat} {a3 : D} {nm : NM} {M : Mem} (ha : At M o nm) (hl : nm.length < 100000) : evS cf ts1 [some (.obj m), some (.obj o), some (.int (d : Int)), some a3, none, none, none, none, none, none] M = .nx [some (.obj m), some (.obj o), some (.int (d : Int)), some a3, some (strL (hereOf nm d)), none, none, none, none, none] M := by
  have hc := keys_comp (cf := cf) (test := .cmp .eq (.ix (.v 1) (.v 9)) (.v 2)) (P := isAt nm d) (r := [some (.obj m), some (.obj o), some (.int (d : Int)), some a3, none, none, none, none, none, none]) ha rfl hl (fun s hs => by
    obtain ⟨e, he⟩ := dOf_mem hs
    have hee : (((e : Nat) : Int) == (d : Int)) = (e == d) := by
      rw [Bool.eq_iff_iff]; simp only [beq_iff_eq]; omega
    simp [ix_lock ha he, hee, isAt, he]) (by simp)
  unfold ts1
  simp only [evS_set, ev_bi, evs_cons, evs_nil, hc, sorted_strs]
  rfl
theorem t_deep {cf : CF} {m o d : Nat} {a3 a4 : D} {nm : NM} {M : Mem} (ha : At M o nm) (hl : nm.length < 100000) : evS cf ts2 [some (.obj m), some (.obj o), some (.int (d : Int)), some a3, some a4, none, none, none, none, none] M = .nx [some (.obj m), some (.obj o), some (.int (d : Int)), some a3, some a4, some (strL (deepOf nm d)), none, none, none, none] M := by
  have hc := keys_comp (cf := cf) (test := .cmp .gt (.ix (.v 1) (.v 9)) (.v 2)) (P := isOver nm d) (r := [some (.obj m), some (.obj o), some (.int (d : Int)), some a3, some a4, none, none, none, none, none]) ha rfl hl (fun s hs => by
    obtain ⟨e, he⟩ := dOf_mem hs
    have hee : decide ((d : Int) < (e : Int)) = decide (d < e) := by
      rw [decide_eq_decide]; omega
    simp [ix_lock ha he, hee, isOver, he]) (by simp)
  unfold ts2
  simp only [evS_set, ev_bi, evs_cons, evs_nil, hc, sorted_strs]
  rfl
/-- names of a rule: short, not too many -/
structure Nm (nm : NM) : Prop where
  len : nm.length < 900
  short : ∀ q ∈ nm, q.1.length ≤ 40
theorem mem_here {nm : NM} {d : Nat} {s : List Nat} (h : s ∈ hereOf nm d) (hn : Nm nm) : s.length ≤ 40 := by
  have h1 := (List.mem_filter.mp (mem_sort _ _ h)).1
  obtain ⟨q, hq, rfl⟩ := List.mem_map.mp h1
  exact hn.short q hq
theorem mem_deep {nm : NM} {d : Nat} {s : List Nat} (h : s ∈ deepOf nm d) (hn : Nm nm) : s.length ≤ 40 := by
  have h1 := (List.mem_filter.mp (mem_sort _ _ h)).1
  obtain ⟨q, hq, rfl⟩ := List.mem_map.mp h1
  exact hn.short q hq
theorem len_here {nm : NM} {d : Nat} (hn : Nm nm) : (hereOf nm d).length < 1000 := by
  have := List.length_filter_le (isAt nm d) (nm.map (·.1))
  have h2 := hn.len
  rw [List.length_map] at this
  unfold hereOf
  rw [len_sort]
  omega
theorem len_deep {nm : NM} {d : Nat} (hn : Nm nm) : (deepOf nm d).length < 1000 := by
  have := List.length_filter_le (isOver nm d) (nm.map (·.1))
  have h2 := hn.len
  rw [List.length_map] at this
  unfold deepOf
  rw [len_sort]
  omega
/-- one of some words -/
theorem e_of_word {n m : Nat} {B : Int} {M : Mem} {l : List (List Nat)} (h : Mc M m B) (h0 : l ≠ []) (h1 : l.length < 1000) (hB : B < 1000000000) : ∃ s M', callN fns (n + 2) 19 [.obj m, strL l] M = .ok (.str s) M' ∧ s ∈ l ∧ Mc M' m (B + 1) ∧ Kp m M M' := by
  obtain ⟨d, M', e, hd, hm, hk⟩ := e_of (n := n) (l := l.map D.str) h (by simpa using h0) (by simpa using h1) hB
  obtain ⟨s, hs, rfl⟩ := List.mem_map.mp hd
  exact ⟨s, M', e, hs, hm, hk⟩
theorem ne_strs_nil (l : List (List Nat)) (m : Mem) : cmpD .ne (strL l) (.lst []) m = .ok (.bl (!l.isEmpty)) m := by
  rw [cmp_ne_gen _ _ _ (by simp [strL, pure_strs]) rfl (Nat.le_trans (Nat.min_le_right _ _) (by decide))]
  cases l <;> rfl
def tAtom : Ex := .ite (.and (.cmp .ne (.v 4) (.lst false [])) (.cmp .gt (.call 18 [(.v 0), (.k (.int 3))]) (.k (.int 0)))) (.call 20 [(.call 19 [(.v 0), (.v 4)])]) (.call 19 [(.v 0), (.lst false [(.k (.int 7)), (.tup []), (.call 20 [(.k (.str s_new))]), (.call 20 [(.k (.str s___1))])])])
theorem t_atom {n m : Nat} {B : Int} {M : Mem} {H : List (List Nat)} {a1 a2 a3 a5 : D} (h : Mc M m B) (hB : B + 5 < 900000000) (h1 : H.length < 1000) (hs : ∀ s ∈ H, s.length ≤ 40) :
    ∃ x M', ev (callN fns (n + 2)) tAtom [some (.obj m), some a1, some a2, some a3, some (strL H), some a5, none, none, none, none] M = .ok (emb x) M' ∧ isL x = false ∧ gd 7 x = true ∧ Mc M' m (B + 2) ∧ Kp m M M' := by
  have other : ∀ (M : Mem) (B : Int), Mc M m B → B < 900000000 → ∃ x M', ev (callN fns (n + 2)) (.call 19 [(.v 0), (.lst false [(.k (.int 7)), (.tup []), (.call 20 [(.k (.str s_new))]), (.call 20 [(.k (.str s___1))])])]) [some (.obj m), some a1, some a2, some a3, some (strL H), some a5, none, none, none, none] M = .ok (emb x) M' ∧ isL x = false ∧ gd 7 x = true ∧ Mc M' m (B + 1) ∧ Kp m M M' := by
    intro M B h hB
    obtain ⟨d, M', e, hd, hm, hk⟩ := e_of (n := n) (l := [emb (.num 7), emb .nil, emb (.wrd s_new), emb (.wrd s___1)]) h (by simp) (by simp) (by omega)
    have hx : ∃ x, d = emb x ∧ isL x = false ∧ gd 7 x = true := by
      simp only [List.mem_cons, List.not_mem_nil, or_false] at hd
      rcases hd with rfl | rfl | rfl | rfl
      · exact ⟨.num 7, rfl, rfl, rfl⟩
      · exact ⟨.nil, rfl, rfl, rfl⟩
      · exact ⟨.wrd s_new, rfl, rfl, rfl⟩
      · exact ⟨.wrd s___1, rfl, rfl, rfl⟩
    obtain ⟨x, rfl, x1, x2⟩ := hx
    simp only [emb] at e
    exact ⟨x, M', by simp [e], x1, x2, hm, hk⟩
  have hne : ev (callN fns (n + 2)) (.cmp .ne (.v 4) (.lst false [])) [some (.obj m), some a1, some a2, some a3, some (strL H), some a5, none, none, none, none] M = .ok (.bl (!H.isEmpty)) M := by
    have := ne_strs_nil H M
    simp [this]
  cases hH : H.isEmpty
  · rw [hH] at hne
    obtain ⟨w, M1, e, w0, w1, hm, hk⟩ := e_draw (n := n + 1) (b := 3) h (by omega) (by omega) (by omega)
    by_cases hw : 0 < w
    · have h0 : H ≠ [] := by
        intro z
        rw [z] at hH
        cases hH
      obtain ⟨s, M2, e2, hs2, hm2, hk2⟩ := e_of_word (n := n) (l := H) hm h0 h1 (by omega)
      refine ⟨.wrd s, M2, ?_, rfl, by simpa [gd] using hs s hs2, hm2.le (by omega), hk.trans hk2⟩
      unfold tAtom
      rw [ev_ite, ev_and, hne]
      simp [e, hw, e2, emb]
    · obtain ⟨x, M2, e2, x1, x2, hm2, hk2⟩ := other M1 (B + 1) hm (by omega)
      refine ⟨x, M2, ?_, x1, x2, hm2.le (by omega), hk.trans hk2⟩
      unfold tAtom
      rw [ev_ite, ev_and, hne]
      simp only [Bool.not_false, truth_b]
      have hg : ev (callN fns (n + 2)) (.cmp .gt (.call 18 [(.v 0), (.k (.int 3))]) (.k (.int 0))) [some (.obj m), some a1, some a2, some a3, some (strL H), some a5, none, none, none, none] M = .ok (.bl false) M1 := by simp [e, hw]
      rw [hg]
      simp only [test_ok', truth_b]
      exact e2
  · rw [hH] at hne
    obtain ⟨x, M2, e2, x1, x2, hm2, hk2⟩ := other M B h (by omega)
    refine ⟨x, M2, ?_, x1, x2, hm2.le (by omega), hk2⟩
    unfold tAtom
    rw [ev_ite, ev_and, hne]
    simp only [Bool.not_true, truth_b, test_ok']
    exact e2
end K96
set_option autoImplicit false
set_option linter.all false
set_option maxRecDepth 10000
namespace K96
open MP
def tw : Nat → Nat
  | 0 => 1
  | s + 1 => 3 * tw s + 14
def td : Nat → Nat
  | 0 => 3
  | s + 1 => 3 * td s + 14
structure Gt (s : Nat) (x : Dt) : Prop where
  g : gd 7 x = true
  d : dp x ≤ 2 * s
  w : wn x ≤ tw s
theorem tw_pos (s : Nat) : 1 ≤ tw s := by cases s <;> simp [tw]
theorem Gt.atom {s : Nat} {x : Dt} (h : isL x = false) (g : gd 7 x = true) : Gt s x := by
  have := tw_pos s
  refine ⟨g, ?_, ?_⟩
  · cases x <;> simp [dp, isL] at *
  · cases x <;> simp [wn, isL] at * <;> exact this
def tsBody : List St := [
    .ite (.and (.cmp .ne (.v 5) (.lst false [])) (.cmp .eq (.call 18 [(.v 0), (.k (.int 2))]) (.k (.int 0)))) [
      .set 8 (.lst false [(.call 29 [(.v 0), (.v 1), (.bin .add (.v 2) (.k (.int 1))), (.bin .sub (.v 3) (.k (.int 1)))]), (.call 20 [(.call 19 [(.v 0), (.v 5)])])]),
      .set 6 (.catM (.v 6) (.lst false [(.tup [(.k (.str s_list)), (.bi .tuple [(.v 8)]), (.tup [])]), (.call 20 [(.k (.str s__))])]))] [
      .ex (.me .append (.v 6) [(.call 29 [(.v 0), (.v 1), (.v 2), (.bin .sub (.v 3) (.k (.int 1)))])])]]
def lE (m o : Nat) (d s : Int) (H P : List (List Nat)) (a : Nat) (e7 e8 : Option D) : Env := [some (.obj m), some (.obj o), some (.int d), some (.int s), some (strL H), some (strL P), some (.obj a), e7, e8, none]
/-- the promise for the smaller size -/
def Ih (n m o s : Nat) (nm : NM) : Prop := ∀ (d : Nat) (M : Mem) (B : Int), At M o nm → Mc M m B → B + td s < 800000000 → ∃ x M', callN fns n 29 [.obj m, .obj o, .int (d : Int), .int (s : Int)] M = .ok (emb x) M' ∧ Gt s x ∧ Mc M' m (B + td s) ∧ Kp m M M'
theorem a_ne {M : Mem} {a m : Nat} {B : Int} {l : List D} (h : Mc M m B) (ha : M[a]? = some (.lst l)) : a ≠ m := by
  obtain ⟨_, _, _, _, _, hM, _⟩ := h.ex
  intro z
  rw [z, hM] at ha
  cases ha
theorem m_lt {M : Mem} {m : Nat} {B : Int} (h : Mc M m B) : m < M.length := by
  obtain ⟨_, _, _, _, _, hM, _⟩ := h.ex
  exact (List.getElem?_eq_some_iff.mp hM).1
theorem cat_new {a : Nat} {x y : List D} {M : Mem} {cf : CF} {r : Env} {ea eb : Ex} (h1 : ev cf ea r M = .ok (.obj a) M) (h2 : ev cf eb r M = .ok (.lst y) M) (ha : M[a]? = some (.lst x)) (hl : x.length + y.length < 1000000) : ev cf (.catM ea eb) r M = .ok (.obj M.length) (M ++ [.lst (x ++ y)]) := by
  have h : x.length + y.length ≤ line := Nat.le_trans (Nat.le_of_lt hl) (by decide)
  rw [ev_catM, h1]
  simp only [h2, itemsOf, ha]
  rw [if_pos (decide_eq_true h)]
theorem app_at {a : Nat} {x : List D} {d : D} {M : Mem} (ha : M[a]? = some (.lst x)) (hl : x.length < 1000000) : meD .append (.obj a) [d] M = .ok .non (M.set a (.lst (x ++ [d]))) := by
  have h : x.length < line := Nat.lt_trans hl (by decide)
  unfold meD
  simp only [ha]
  rw [if_pos (decide_eq_true h)]
theorem Mc.set {M : Mem} {m a : Nat} {B : Int} {x : MO} (h : Mc M m B) (hne : a ≠ m) : Mc (M.set a x) m B := by
  obtain ⟨l, s, p, q, c, hM, r⟩ := h.ex
  exact ⟨l, s, p, q, c, by rw [List.getElem?_set_ne hne]; exact hM, r⟩
theorem Kp.set' {m a : Nat} {M0 M : Mem} {x : MO} (k : Kp m M0 M) (h : M0.length ≤ a) : Kp m M0 (M.set a x) := ⟨by rw [List.length_set]; exact k.len, fun i hi hm => by rw [List.getElem?_set_ne (by omega), k.get i hi hm]⟩
theorem Kp.app' {m : Nat} {M0 M J : Mem} (k : Kp m M0 M) : Kp m M0 (M ++ J) := k.trans .app
theorem turn_t {n m o d s a : Nat} {i : D} {H P : List (List Nat)} {nm : NM} {e8 : Option D} {M0 M : Mem} {B : Int} {xs : List Dt} (ih : Ih (n + 2) m o s nm) (hao : At M0 o nm) (hom : o ≠ m) (hk0 : Kp m M0 M) (ha0 : M0.length ≤ a) (hM : Mc M m B) (ha : M[a]? = some (.lst (embs xs))) (hx : xs.length < 1000)
    (hB : B + td s + 5 < 800000000) (hP : P.length < 1000) (hPs : ∀ s ∈ P, s.length ≤ 40) :
    ∃ ys a' e8' M', evSs (callN fns (n + 2)) tsBody (lE m o d ((s : Int) + 1) H P a (some i) e8) M = .nx (lE m o d ((s : Int) + 1) H P a' (some i) e8') M' ∧ M'[a']? = some (.lst (embs (xs ++ ys))) ∧ M0.length ≤ a' ∧ 1 ≤ ys.length ∧ ys.length ≤ 2 ∧ (∀ y ∈ ys, gd 7 y = true ∧ dp y ≤ 2 * s + 1) ∧ wns ys ≤ tw s + 4 ∧ Mc M' m (B + td s + 2) ∧ Kp m M0 M' := by
  have hs1 : (s : Int) + 1 - 1 = (s : Int) := by omega
  have hd1 : (d : Int) + 1 = ((d + 1 : Nat) : Int) := by omega
  have hne : ∀ M, ev (callN fns (n + 2)) (.cmp .ne (.v 5) (.lst false [])) (lE m o d ((s : Int) + 1) H P a (some i) e8) M = .ok (.bl (!P.isEmpty)) M := fun M => by
    have := ne_strs_nil P M
    simp [lE, this]
  -- the other way: one item more
  have other : ∀ (M1 : Mem), Mc M1 m (B + 1) → Kp m M M1 → ∃ y M', evS (callN fns (n + 2)) (.ex (.me .append (.v 6) [(.call 29 [(.v 0), (.v 1), (.v 2), (.bin .sub (.v 3) (.k (.int 1)))])])) (lE m o d ((s : Int) + 1) H P a (some i) e8) M1 = .nx (lE m o d ((s : Int) + 1) H P a (some i) e8) M' ∧ M'[a]? = some (.lst (embs (xs ++ [y]))) ∧ Gt s y ∧ Mc M' m (B + td s + 2) ∧ Kp m M0 M' := by
    intro M1 hM1 hk1
    have ham := a_ne hM ha
    have hlt : a < M.length := (List.getElem?_eq_some_iff.mp ha).1
    have ha1 : M1[a]? = some (.lst (embs xs)) := by rw [hk1.get a hlt ham]; exact ha
    obtain ⟨y, M2, e, hy, hM2, hk2⟩ := ih d M1 (B + 1) ((hk0.trans hk1).at hao hom) hM1 (by omega)
    have hlt1 : a < M1.length := (List.getElem?_eq_some_iff.mp ha1).1
    have ha2 : M2[a]? = some (.lst (embs xs)) := by rw [hk2.get a hlt1 ham]; exact ha1
    have hlt2 : a < M2.length := (List.getElem?_eq_some_iff.mp ha2).1
    refine ⟨y, M2.set a (.lst (embs (xs ++ [y]))), ?_, List.getElem?_set_self hlt2, hy, (hM2.le (by omega)).set ham, ((hk0.trans hk1).trans hk2).set' ha0⟩
    have happ := app_at (d := emb y) ha2 (by rw [embs_len]; omega)
    rw [embs_app]
    simp [lE, ha1, hs1, e, happ, embs]
  cases hPe : P.isEmpty
  · rw [hPe] at hne
    obtain ⟨w, M1, e, w0, w1, hm, hk⟩ := e_draw (n := n + 1) (b := 2) hM (by omega) (by omega) (by omega)
    by_cases hw : w = 0
    · subst hw
      have h0 : P ≠ [] := by
        intro z
        rw [z] at hPe
        cases hPe
      have htest : ev (callN fns (n + 2)) (.and (.cmp .ne (.v 5) (.lst false [])) (.cmp .eq (.call 18 [(.v 0), (.k (.int 2))]) (.k (.int 0)))) (lE m o d ((s : Int) + 1) H P a (some i) e8) M = .ok (.bl true) M1 := by
        rw [ev_and, hne]
        simp [lE, e]
      obtain ⟨x, M2, e2, hx2, hM2, hk2⟩ := ih (d + 1) M1 (B + 1) ((hk0.trans hk).at hao hom) hm (by omega)
      obtain ⟨v, M3, e3, hv, hM3, hk3⟩ := e_of_word (n := n) (l := P) hM2 h0 hP (by omega)
      have hset : evS (callN fns (n + 2)) (.set 8 (.lst false [(.call 29 [(.v 0), (.v 1), (.bin .add (.v 2) (.k (.int 1))), (.bin .sub (.v 3) (.k (.int 1)))]), (.call 20 [(.call 19 [(.v 0), (.v 5)])])])) (lE m o d ((s : Int) + 1) H P a (some i) e8) M1 = .nx (lE m o d ((s : Int) + 1) H P a (some i) (some (.lst [emb x, emb (.wrd v)]))) M3 := by
        simp only [lE, evS_set, ev_lst, evs_cons, evs_nil, ev_call, ev_v, List.getElem?_cons_zero, List.getElem?_cons_succ, ev_bin, ev_k, add_int, sub_int, hs1, hd1, e2, e3, e_w]
        rfl
      have ham := a_ne hM ha
      have hlt : a < M.length := (List.getElem?_eq_some_iff.mp ha).1
      have ha3 : M3[a]? = some (.lst (embs xs)) := by rw [((hk.trans hk2).trans hk3).get a hlt ham]; exact ha
      have hcat : ev (callN fns (n + 2)) (.catM (.v 6) (.lst false [(.tup [(.k (.str s_list)), (.bi .tuple [(.v 8)]), (.tup [])]), (.call 20 [(.k (.str s__))])])) (lE m o d ((s : Int) + 1) H P a (some i) (some (.lst [emb x, emb (.wrd v)]))) M3 = .ok (.obj M3.length) (M3 ++ [.lst (embs xs ++ [emb (.lst [x, .wrd v] .nil), emb (.wrd s__)])]) := by
        refine cat_new (a := a) (x := embs xs) rfl ?_ ha3 (by rw [embs_len]; simp; omega)
        simp [lE, emb, embs]
      refine ⟨[.lst [x, .wrd v] .nil, .wrd s__], M3.length, some (.lst [emb x, emb (.wrd v)]), M3 ++ [.lst (embs xs ++ [emb (.lst [x, .wrd v] .nil), emb (.wrd s__)])], ?_, ?_, ?_, by simp, by simp, ?_, ?_, (hM3.le (by omega)).app, (((hk0.trans hk).trans hk2).trans hk3).app'⟩
      · simp only [tsBody, evSs_cons, evSs_nil, evS_ite, htest, test_ok', truth_b, hset, evS_set, hcat]
        rfl
      · rw [embs_app]
        simp [embs]
      · have := (((hk0.trans hk).trans hk2).trans hk3).len
        exact this
      · intro y hy
        simp only [List.mem_cons, List.not_mem_nil, or_false] at hy
        rcases hy with rfl | rfl
        · have h1 := hx2.g
          have h2 := hx2.d
          have h3 := hPs v hv
          constructor
          · simp [gd, gds, h1, h3]
          · simp only [dp, dps]
            omega
        · exact ⟨rfl, by simp [dp]⟩
      · have := hx2.w
        simp only [wns, wn]
        omega
    · have hw' : (w == 0) = false := by simpa using hw
      have htest : ev (callN fns (n + 2)) (.and (.cmp .ne (.v 5) (.lst false [])) (.cmp .eq (.call 18 [(.v 0), (.k (.int 2))]) (.k (.int 0)))) (lE m o d ((s : Int) + 1) H P a (some i) e8) M = .ok (.bl false) M1 := by
        rw [ev_and, hne]
        simp [lE, e, hw']
      obtain ⟨y, M', e2, ha', hy, hM', hk'⟩ := other M1 hm hk
      refine ⟨[y], a, e8, M', ?_, ha', ha0, by simp, by simp, ?_, ?_, hM', hk'⟩
      · simp only [tsBody, evSs_cons, evSs_nil, evS_ite, htest, test_ok', truth_b, e2]
      · intro z hz
        rw [List.mem_singleton.mp hz]
        exact ⟨hy.g, by have := hy.d; omega⟩
      · have := hy.w
        simp only [wns]
        omega
  · rw [hPe] at hne
    have htest : ev (callN fns (n + 2)) (.and (.cmp .ne (.v 5) (.lst false [])) (.cmp .eq (.call 18 [(.v 0), (.k (.int 2))]) (.k (.int 0)))) (lE m o d ((s : Int) + 1) H P a (some i) e8) M = .ok (.bl false) M := by
      rw [ev_and, hne]
      rfl
    obtain ⟨y, M', e2, ha', hy, hM', hk'⟩ := other M (hM.le (by omega)) (.refl m M)
    refine ⟨[y], a, e8, M', ?_, ha', ha0, by simp, by simp, ?_, ?_, hM', hk'⟩
    · simp only [tsBody, evSs_cons, evSs_nil, evS_ite, htest, test_ok', truth_b, e2]
    · intro z hz
      rw [List.mem_singleton.mp hz]
      exact ⟨hy.g, by have := hy.d; omega⟩
    · have := hy.w
      simp only [wns]
      omega
theorem loop_t {n m o d s : Nat} {H P : List (List Nat)} {nm : NM} {M0 : Mem} (ih : Ih (n + 2) m o s nm) (hao : At M0 o nm) (hom : o ≠ m) (hP : P.length < 1000) (hPs : ∀ s ∈ P, s.length ≤ 40) : ∀ (l : List Int) (xs : List Dt) (a : Nat) (e7 e8 : Option D) (M : Mem) (B : Int), Kp m M0 M → M0.length ≤ a → Mc M m B → M[a]? = some (.lst (embs xs)) → xs.length + 2 * l.length < 1000 → B + ((td s + 2) * l.length : Nat) + 5 < 800000000 →
    ∃ ys a' e7' e8' M', forL (.v 7) (fun r m => evSs (callN fns (n + 2)) tsBody r m) (l.map D.int) (lE m o d ((s : Int) + 1) H P a e7 e8) M = .nx (lE m o d ((s : Int) + 1) H P a' e7' e8') M' ∧ M'[a']? = some (.lst (embs (xs ++ ys))) ∧ l.length ≤ ys.length ∧ ys.length ≤ 2 * l.length ∧ (∀ y ∈ ys, gd 7 y = true ∧ dp y ≤ 2 * s + 1) ∧ wns ys ≤ (tw s + 4) * l.length ∧ Mc M' m (B + ((td s + 2) * l.length : Nat)) ∧ Kp m M0 M'
  | [], xs, a, e7, e8, M, B, hk, ha0, hM, ha, hx, hB => ⟨[], a, e7, e8, M, rfl, by simpa using ha, by simp, by simp, fun y hy => (by cases hy), by simp [wns], hM.le (by omega), hk⟩
  | i :: l, xs, a, e7, e8, M, B, hk, ha0, hM, ha, hx, hB => by
    simp only [List.length_cons, Nat.mul_add, Nat.mul_one] at hx hB
    obtain ⟨ys, a1, f8, M1, e, ha1, ha10, y1, y2, hys, hwy, hM1, hk1⟩ := turn_t (i := .int i) (d := d) (H := H) (e8 := e8) ih hao hom hk ha0 hM ha (by omega) (by omega) hP hPs
    obtain ⟨zs, a2, g7, g8, M2, e2, ha2, z1, z2, hzs, hwz, hM2, hk2⟩ := loop_t (d := d) (H := H) ih hao hom hP hPs l (xs ++ ys) a1 (some (.int i)) f8 M1 (B + td s + 2) hk1 ha10 hM1 ha1 (by rw [List.length_append]; omega) (by omega)
    refine ⟨ys ++ zs, a2, g7, g8, M2, ?_, by rw [← List.append_assoc]; exact ha2, by simp; omega, by simp; omega, ?_, ?_, hM2.le (by simp only [List.length_cons, Nat.mul_add, Nat.mul_one]; omega), hk2⟩
    · rw [List.map_cons, forL_cons (r1 := lE m o d ((s : Int) + 1) H P a (some (.int i)) e8) rfl, e]
      exact e2
    · intro y hy
      rcases List.mem_append.mp hy with h | h
      · exact hys y h
      · exact hzs y h
    · rw [wns_app]
      simp only [List.length_cons, Nat.mul_add, Nat.mul_one]
      omega
end K96
set_option autoImplicit false
set_option linter.all false
set_option maxRecDepth 10000
namespace K96
open MP
def ts3 : St := .ite (.or (.cmp .lt (.v 3) (.k (.int 1))) (.cmp .eq (.call 18 [(.v 0), (.k (.int 4))]) (.k (.int 0)))) [.ret tAtom] []
def ts4 : St := .ite (.cmp .eq (.call 18 [(.v 0), (.k (.int 8))]) (.k (.int 0))) [
    .ret (.tup [(.k (.str s_list)), (.tup [(.call 20 [(.k (.str s__))]), (.tup [(.k (.str s_list)), (.tup [(.call 29 [(.v 0), (.v 1), (.v 2), (.k (.int 0))]), (.call 20 [(.k (.str s__))])]), (.tup [])])]), (.tup [])])] []
def ts5 : St := .set 6 (.lst true [])
def ts6 : St := .for (.v 7) (.range1 (.bin .add (.k (.int 1)) (.call 18 [(.v 0), (.k (.int 3))]))) tsBody
def ts7 : St := .ret (.tup [(.k (.str s_list)), (.bi .tuple [(.v 6)]), (.ite (.cmp .eq (.call 18 [(.v 0), (.k (.int 6))]) (.k (.int 0))) (.call 20 [(.k (.str s_new))]) (.tup []))])
def tEnv (m o : Nat) (d s : Int) (H P : List (List Nat)) : Env := [some (.obj m), some (.obj o), some (.int d), some (.int s), some (strL H), some (strL P), none, none, none, none]
theorem tmp_run {n m o d : Nat} {s : Int} {nm : NM} {M : Mem} {R : R D} (ha : At M o nm) (hl : nm.length < 100000) (h : (match evSs (callN fns n) [ts3, ts4, ts5, ts6, ts7] (tEnv m o d s (hereOf nm d) (deepOf nm d)) M with
      | .nx _ m1 => MP.R.ok D.non m1
      | .rt d m1 => MP.R.ok d m1
      | _ => MP.R.stop) = R) : callN fns (n + 1) 29 [.obj m, .obj o, .int (d : Int), .int s] M = R := by
  have h1 := t_here (cf := callN fns n) (m := m) (d := d) (a3 := .int s) ha hl
  have h2 := t_deep (cf := callN fns n) (m := m) (d := d) (a3 := .int s) (a4 := strL (hereOf nm d)) ha hl
  rw [call__law_template, run_fn rfl, ← h]
  show (match evSs (callN fns n) [ts1, ts2, ts3, ts4, ts5, ts6, ts7] [some (.obj m), some (.obj o), some (.int (d : Int)), some (.int s), none, none, none, none, none, none] M with
      | .nx _ m1 => MP.R.ok D.non m1
      | .rt d m1 => MP.R.ok d m1
      | _ => MP.R.stop) = _
  rw [evSs_cons, h1]
  simp only
  rw [evSs_cons, h2]
  rfl
theorem tmp_atom {n m o d : Nat} {s : Int} {nm : NM} {M M1 : Mem} {B : Int} {rest : List St} (hn : Nm nm) (ht : ev (callN fns (n + 2)) (.or (.cmp .lt (.v 3) (.k (.int 1))) (.cmp .eq (.call 18 [(.v 0), (.k (.int 4))]) (.k (.int 0)))) (tEnv m o d s (hereOf nm d) (deepOf nm d)) M = .ok (.bl true) M1) (h : Mc M1 m B) (hB : B + 5 < 900000000) :
    ∃ x M', (match evSs (callN fns (n + 2)) (ts3 :: rest) (tEnv m o d s (hereOf nm d) (deepOf nm d)) M with
      | .nx _ m1 => MP.R.ok D.non m1
      | .rt d m1 => MP.R.ok d m1
      | _ => MP.R.stop) = .ok (emb x) M' ∧ isL x = false ∧ gd 7 x = true ∧ Mc M' m (B + 2) ∧ Kp m M1 M' := by
  obtain ⟨x, M', e, x1, x2, hm, hk⟩ := t_atom (n := n) (H := hereOf nm d) (a1 := .obj o) (a2 := .int d) (a3 := .int s) (a5 := strL (deepOf nm d)) h hB (len_here hn) (fun s hs => mem_here hs hn)
  refine ⟨x, M', ?_, x1, x2, hm, hk⟩
  simp only [evSs_cons, ts3, evS_ite, ht, test_ok', truth_b, evS_ret]
  have e : ev (callN fns (n + 2)) tAtom (tEnv m o d s (hereOf nm d) (deepOf nm d)) M1 = .ok (emb x) M' := e
  rw [e]
theorem tmp_0 {n m o : Nat} {nm : NM} (hn : Nm nm) (hom : o ≠ m) : Ih (n + 3) m o 0 nm := by
  intro d M B ha hM hB
  have hB : B + (3 : Nat) < 800000000 := hB
  have ht : ev (callN fns (n + 2)) (.or (.cmp .lt (.v 3) (.k (.int 1))) (.cmp .eq (.call 18 [(.v 0), (.k (.int 4))]) (.k (.int 0)))) (tEnv m o d ((0 : Nat) : Int) (hereOf nm d) (deepOf nm d)) M = .ok (.bl true) M := by
    simp [tEnv]
  obtain ⟨x, M', e, x1, x2, hm, hk⟩ := tmp_atom (n := n) (rest := [ts4, ts5, ts6, ts7]) hn ht hM (by omega)
  have hl := hn.len
  exact ⟨x, M', tmp_run ha (by omega) e, .atom x1 x2, hm.le (by simp only [td]; omega), hk⟩
theorem tmp_asis {n m o d s : Nat} {nm : NM} {M : Mem} {B : Int} {H P : List (List Nat)} (ih : Ih (n + 2) m o 0 nm) (ha : At M o nm) (hM : Mc M m B) (hB : B + 10 < 800000000) :
    ∃ x M', ev (callN fns (n + 2)) (.tup [(.k (.str s_list)), (.tup [(.call 20 [(.k (.str s__))]), (.tup [(.k (.str s_list)), (.tup [(.call 29 [(.v 0), (.v 1), (.v 2), (.k (.int 0))]), (.call 20 [(.k (.str s__))])]), (.tup [])])]), (.tup [])]) (tEnv m o d ((s : Int) + 1) H P) M = .ok (emb x) M' ∧ Gt (s + 1) x ∧ Mc M' m (B + 3) ∧ Kp m M M' := by
  obtain ⟨y, M', e, hy, hm, hk⟩ := ih d M B ha hM (by simp only [td]; omega)
  refine ⟨.lst [.wrd s__, .lst [y, .wrd s__] .nil] .nil, M', ?_, ⟨?_, ?_, ?_⟩, hm, hk⟩
  · have e : callN fns (n + 2) 29 [.obj m, .obj o, .int (d : Int), .int 0] M = .ok (emb y) M' := e
    simp [tEnv, e, emb, embs]
  · have := hy.g
    simp [gd, gds, this]
    decide
  · have := hy.d
    simp only [dp, dps]
    omega
  · have := hy.w
    simp only [tw] at this
    simp only [wn, wns, tw]
    omega
theorem tmp_items {n m o d s : Nat} {nm : NM} {M : Mem} {B : Int} {H P : List (List Nat)} (ih : Ih (n + 2) m o s nm) (ha : At M o nm) (hom : o ≠ m) (hM : Mc M m B) (hB : B + 3 * td s + 12 < 800000000) (hP : P.length < 1000) (hPs : ∀ s ∈ P, s.length ≤ 40) :
    ∃ ys a e7 e8 M', evSs (callN fns (n + 2)) [ts5, ts6, ts7] (tEnv m o d ((s : Int) + 1) H P) M = evSs (callN fns (n + 2)) [ts7] (lE m o d ((s : Int) + 1) H P a e7 e8) M' ∧ M'[a]? = some (.lst (embs ys)) ∧ 1 ≤ ys.length ∧ ys.length ≤ 6 ∧ (∀ y ∈ ys, gd 7 y = true ∧ dp y ≤ 2 * s + 1) ∧ wns ys ≤ 3 * (tw s + 4) ∧ Mc M' m (B + 1 + 3 * (td s + 2)) ∧ Kp m M M' := by
  have h5 : evS (callN fns (n + 2)) ts5 (tEnv m o d ((s : Int) + 1) H P) M = .nx (lE m o d ((s : Int) + 1) H P M.length none none) (M ++ [.lst []]) := by
    simp [ts5, tEnv, lE]
  obtain ⟨w, M1, e, w0, w1, hm, hk⟩ := e_draw (n := n + 1) (b := 3) (hM.app (J := [.lst []])) (by omega) (by omega) (by omega)
  obtain ⟨k, rfl⟩ := Int.eq_ofNat_of_zero_le w0
  have hi : evIt (callN fns (n + 2)) (.range1 (.bin .add (.k (.int 1)) (.call 18 [(.v 0), (.k (.int 3))]))) (lE m o d ((s : Int) + 1) H P M.length none none) (M ++ [.lst []]) = .ok (.vals (intRange 0 (1 + (k : Int)))) M1 := by
    rw [evIt_range1]
    have := small_of (j := 1 + (k : Int)) (by omega) (by omega)
    simp [lE, e, this]
  have hlen : ((List.range (1 + (k : Int)).toNat).map fun (k : Nat) => (k : Int)).length = k + 1 := by
    simp
    omega
  have hmlt := m_lt hM
  have hnew : (M ++ [MO.lst []])[M.length]? = some (.lst (embs [])) := by simp [embs]
  have hnew1 : M1[M.length]? = some (.lst (embs [])) := by
    rw [hk.get M.length (by simp) (by omega)]
    exact hnew
  have hK : (td s + 2) * (k + 1) ≤ 3 * (td s + 2) := by
    rw [Nat.mul_comm]
    exact Nat.mul_le_mul_right _ (by omega)
  have hK2 : (tw s + 4) * (k + 1) ≤ 3 * (tw s + 4) := by
    rw [Nat.mul_comm]
    exact Nat.mul_le_mul_right _ (by omega)
  have hkk : Kp m M M1 := Kp.app.trans hk
  obtain ⟨ys, a, e7, e8, M2, e2, ha2, y1, y2, hys, hwy, hM2, hk2⟩ := loop_t (n := n) (d := d) (H := H) ih ha hom hP hPs ((List.range (1 + (k : Int)).toNat).map fun (k : Nat) => (k : Int)) [] M.length none none M1 (B + 1) hkk (Nat.le_refl _) hm hnew1 (by rw [hlen]; simp; omega) (by rw [hlen]; omega)
  rw [hlen] at y1 y2 hwy hM2
  refine ⟨ys, a, e7, e8, M2, ?_, by simpa using ha2, by omega, by omega, hys, by omega, hM2.le (by omega), hk2⟩
  have h6 : evS (callN fns (n + 2)) ts6 (lE m o d ((s : Int) + 1) H P M.length none none) (M ++ [.lst []]) = .nx (lE m o d ((s : Int) + 1) H P a e7 e8) M2 := by
    unfold ts6
    rw [evS_for, hi, range_ints]
    exact e2
  rw [evSs_cons, h5]
  simp only
  rw [evSs_cons, h6]
theorem tmp_ret {n m o d s a : Nat} {M : Mem} {B : Int} {H P : List (List Nat)} {e7 e8 : Option D} {ys : List Dt} (hM : Mc M m B) (hB : B + 5 < 900000000) (ha : M[a]? = some (.lst (embs ys))) (h1 : 1 ≤ ys.length) (h6 : ys.length ≤ 6) (hys : ∀ y ∈ ys, gd 7 y = true ∧ dp y ≤ 2 * s + 1) (hw : wns ys ≤ 3 * (tw s + 4)) :
    ∃ x M', (match evSs (callN fns (n + 2)) [ts7] (lE m o d ((s : Int) + 1) H P a e7 e8) M with
      | .nx _ m1 => MP.R.ok D.non m1
      | .rt d m1 => MP.R.ok d m1
      | _ => MP.R.stop) = .ok (emb x) M' ∧ Gt (s + 1) x ∧ Mc M' m (B + 1) ∧ Kp m M M' := by
  obtain ⟨w, M1, e, w0, w1, hm, hk⟩ := e_draw (n := n + 1) (b := 6) hM (by omega) (by omega) (by omega)
  have ht : biD .tuple [.obj a] M = .ok (.tup (embs ys)) M := by
    unfold biD
    simp only [ha]
  have hgood : ∀ t : Dt, isL t = false → gd 7 t = true → Gt (s + 1) (.lst ys t) := fun t t1 t2 => by
    have hwt : wn t = 1 := by cases t <;> simp [wn, isL] at *
    have hdt : dp t = 0 := by cases t <;> simp [dp, isL] at *
    refine ⟨?_, ?_, ?_⟩
    · simp only [gd, Bool.and_eq_true, decide_eq_true_eq]
      refine ⟨?_, by omega, gds_all.mpr fun y hy => (hys y hy).1, t2⟩
      cases ys with
      | nil => simp at h1
      | cons a r => rfl
    · have h1 : dps ys ≤ 2 * s + 1 := dps_le.mpr fun y hy => (hys y hy).2
      simp only [dp]
      omega
    · simp only [wn, tw]
      omega
  by_cases hz : w = 0
  · subst hz
    refine ⟨.lst ys (.wrd s_new), M1, ?_, hgood _ rfl rfl, hm, hk⟩
    simp [ts7, lE, ht, e, emb]
  · have hz' : (w == 0) = false := by simpa using hz
    refine ⟨.lst ys .nil, M1, ?_, hgood _ rfl rfl, hm, hk⟩
    simp [ts7, lE, ht, e, hz', emb]
theorem e_tmp {m o : Nat} {nm : NM} (hn : Nm nm) (hom : o ≠ m) : ∀ s n : Nat, s ≤ 5 → s + 3 ≤ n → Ih n m o s nm
  | 0, n, h5, h => by
    obtain ⟨n2, rfl⟩ : ∃ n2, n = n2 + 3 := ⟨n - 3, by omega⟩
    exact tmp_0 hn hom
  | s + 1, n, h5, h => by
    obtain ⟨n2, rfl⟩ : ∃ n2, n = n2 + 3 := ⟨n - 3, by omega⟩
    have ih := e_tmp hn hom s (n2 + 2) (by omega) (by omega)
    have ih0 := e_tmp hn hom 0 (n2 + 2) (by omega) (by omega)
    intro d M B ha hM hB
    have hB : B + (3 * td s + 14 : Nat) < 800000000 := hB
    have hl := hn.len
    have hs1 : ((s + 1 : Nat) : Int) = (s : Int) + 1 := by omega
    have hlt : ¬ ((s : Int) + 1 < 1) := by omega
    obtain ⟨w, M1, e, w0, w1, hm, hk⟩ := e_draw (n := n2 + 1) (b := 4) hM (by omega) (by omega) (by omega)
    rw [hs1]
    by_cases hz : w = 0
    · subst hz
      have ht : ev (callN fns (n2 + 2)) (.or (.cmp .lt (.v 3) (.k (.int 1))) (.cmp .eq (.call 18 [(.v 0), (.k (.int 4))]) (.k (.int 0)))) (tEnv m o d ((s : Int) + 1) (hereOf nm d) (deepOf nm d)) M = .ok (.bl true) M1 := by
        simp [tEnv, hlt, e]
      obtain ⟨x, M', e2, x1, x2, hm2, hk2⟩ := tmp_atom (n := n2) (rest := [ts4, ts5, ts6, ts7]) hn ht hm (by omega)
      exact ⟨x, M', tmp_run ha (by omega) e2, .atom x1 x2, hm2.le (by simp only [td]; omega), hk.trans hk2⟩
    · have hz' : (w == 0) = false := by simpa using hz
      have h3 : evS (callN fns (n2 + 2)) ts3 (tEnv m o d ((s : Int) + 1) (hereOf nm d) (deepOf nm d)) M = .nx (tEnv m o d ((s : Int) + 1) (hereOf nm d) (deepOf nm d)) M1 := by
        have ht : ev (callN fns (n2 + 2)) (.or (.cmp .lt (.v 3) (.k (.int 1))) (.cmp .eq (.call 18 [(.v 0), (.k (.int 4))]) (.k (.int 0)))) (tEnv m o d ((s : Int) + 1) (hereOf nm d) (deepOf nm d)) M = .ok (.bl false) M1 := by
          simp [tEnv, hlt, e, hz']
        unfold ts3
        rw [evS_ite, ht]
        rfl
      obtain ⟨v, M2, e2, v0, v1, hm2, hk2⟩ := e_draw (n := n2 + 1) (b := 8) hm (by omega) (by omega) (by omega)
      have ha2 := (hk.trans hk2).at ha hom
      by_cases hv : v = 0
      · subst hv
        have ht : ev (callN fns (n2 + 2)) (.cmp .eq (.call 18 [(.v 0), (.k (.int 8))]) (.k (.int 0))) (tEnv m o d ((s : Int) + 1) (hereOf nm d) (deepOf nm d)) M1 = .ok (.bl true) M2 := by
          simp [tEnv, e2]
        obtain ⟨x, M', e3, hx, hm3, hk3⟩ := tmp_asis (s := s) (d := d) (H := hereOf nm d) (P := deepOf nm d) ih0 ha2 hm2 (by omega)
        refine ⟨x, M', tmp_run ha (by omega) ?_, hx, hm3.le (by simp only [td]; omega), (hk.trans hk2).trans hk3⟩
        rw [evSs_cons, h3]
        simp only
        rw [evSs_cons]
        unfold ts4
        rw [evS_ite, ht]
        simp only [test_ok', truth_b, evSs_cons, evS_ret]
        rw [e3]
      · have hv' : (v == 0) = false := by simpa using hv
        have h4 : evS (callN fns (n2 + 2)) ts4 (tEnv m o d ((s : Int) + 1) (hereOf nm d) (deepOf nm d)) M1 = .nx (tEnv m o d ((s : Int) + 1) (hereOf nm d) (deepOf nm d)) M2 := by
          have ht : ev (callN fns (n2 + 2)) (.cmp .eq (.call 18 [(.v 0), (.k (.int 8))]) (.k (.int 0))) (tEnv m o d ((s : Int) + 1) (hereOf nm d) (deepOf nm d)) M1 = .ok (.bl false) M2 := by
            simp [tEnv, e2, hv']
          unfold ts4
          rw [evS_ite, ht]
          rfl
        obtain ⟨ys, a, f7, f8, M3, e3, ha3, y1, y6, hys, hwy, hm3, hk3⟩ := tmp_items (d := d) (H := hereOf nm d) (P := deepOf nm d) ih ha2 hom hm2 (by omega) (len_deep hn) (fun s hs => mem_deep hs hn)
        obtain ⟨x, M4, e4, hx, hm4, hk4⟩ := tmp_ret (n := n2) (o := o) (d := d) (H := hereOf nm d) (P := deepOf nm d) (e7 := f7) (e8 := f8) hm3 (by omega) ha3 y1 y6 hys hwy
        refine ⟨x, M4, tmp_run ha (by omega) ?_, hx, hm4.le (by simp only [td]; omega), ((hk.trans hk2).trans hk3).trans hk4⟩
        rw [evSs_cons, h3]
        simp only
        rw [evSs_cons, h4]
        simp only
        rw [e3]
        exact e4
end K96
set_option autoImplicit false
set_option linter.all false
set_option maxRecDepth 10000
namespace K96
open MP
mutual
theorem gd_mono {c e : Nat} (h : c ≤ e) : ∀ x, gd c x = true → gd e x = true
  | .lst l t, g => by
    simp only [gd, Bool.and_eq_true, decide_eq_true_eq] at g ⊢
    exact ⟨g.1, by omega, gds_mono h l g.2.2.1, gd_mono h t g.2.2.2⟩
  | .wrd s, g => g
  | .num i, g => g
  | .tru, g => g
  | .nil, g => g
theorem gds_mono {c e : Nat} (h : c ≤ e) : ∀ l, gds c l = true → gds e l = true
  | [], g => rfl
  | x :: r, g => by
    simp only [gds, Bool.and_eq_true] at g ⊢
    exact ⟨gd_mono h x g.1, gds_mono h r g.2⟩
end
structure Bt (c : Nat) (x y : Dt) : Prop where
  g : gd (c + 1) y = true
  d : dp y ≤ dp x
  w : wn y ≤ 2 * wn x
theorem Bt.atom {c : Nat} {x y : Dt} (h : isL y = false) (g : gd 7 y = true) (hc : 7 ≤ c) : Bt c x y := by
  have := wn_pos x
  refine ⟨gd_mono (by omega) y g, ?_, ?_⟩
  · cases y <;> simp [dp, isL] at *
  · cases y <;> simp [wn, isL] at * <;> omega
def someL : List Dt := [.wrd s__, .wrd s___1, .wrd s_p1, .wrd s_p2, .wrd s_p3, .wrd s_lit, .wrd s_other, .num 5, .nil]
theorem of_some {n m : Nat} {B : Int} {M : Mem} {L : List Dt} (h : Mc M m B) (h0 : L ≠ []) (h1 : L.length < 1000) (hL : ∀ x ∈ L, isL x = false ∧ gd 7 x = true) (hB : B < 1000000000) : ∃ x M', callN fns (n + 2) 19 [.obj m, .lst (embs L)] M = .ok (emb x) M' ∧ isL x = false ∧ gd 7 x = true ∧ Mc M' m (B + 1) ∧ Kp m M M' := by
  obtain ⟨d, M', e, hd, hm, hk⟩ := e_of (n := n) (l := embs L) h (by cases L; exact absurd rfl h0; simp [embs]) (by rw [embs_len]; exact h1) hB
  have : ∃ x ∈ L, d = emb x := by
    clear e hL h0 h1
    induction L with
    | nil => cases hd
    | cons a r ih =>
      simp only [embs, List.mem_cons] at hd
      rcases hd with rfl | hd
      · exact ⟨a, List.mem_cons_self, rfl⟩
      · obtain ⟨x, hx, e⟩ := ih hd
        exact ⟨x, List.mem_cons_of_mem _ hx, e⟩
  obtain ⟨x, hx, rfl⟩ := this
  exact ⟨x, M', e, (hL x hx).1, (hL x hx).2, hm, hk⟩
theorem someL_ok : ∀ x ∈ someL, isL x = false ∧ gd 7 x = true := by
  intro x hx
  simp only [someL, List.mem_cons, List.not_mem_nil, or_false] at hx
  rcases hx with rfl | rfl | rfl | rfl | rfl | rfl | rfl | rfl | rfl <;> exact ⟨rfl, by decide⟩
def bs1 : St := .ite (.or (.not (.call 21 [(.v 1)])) (.cmp .eq (.call 18 [(.v 0), (.k (.int 6))]) (.k (.int 0)))) [
    .ret (.call 19 [(.v 0), (.v 2)])] []
def bs2 : St := .par [3, 4, 5] [(.ix (.v 1) (.k (.int 1))), (.call 18 [(.v 0), (.bi .len [(.ix (.v 1) (.k (.int 1)))])]), (.call 18 [(.v 0), (.k (.int 10))])]
def bs3 : St := .ite (.cmp .eq (.v 5) (.k (.int 0))) [
    .ret (.tup [(.k (.str s_list)), (.v 3), (.call 19 [(.v 0), (.lst false [(.call 20 [(.k (.str s__))]), (.call 20 [(.k (.str s_p1))]), (.k (.int 5))])])])] []
def bs4 : St := .ite (.and (.cmp .eq (.v 5) (.k (.int 1))) (.cmp .gt (.bi .len [(.v 3)]) (.k (.int 1)))) [
    .ret (.tup [(.k (.str s_list)), (.bin .add (.sl (.v 3) [] [(.v 4)]) (.sl (.v 3) [(.bin .add (.v 4) (.k (.int 1)))] [])), (.ix (.v 1) (.k (.int 2)))])] []
def bs5 : St := .ite (.cmp .lt (.v 5) (.k (.int 5))) [
    .ret (.tup [(.k (.str s_list)), (.bin .add (.bin .add (.sl (.v 3) [] [(.v 4)]) (.tup [(.ite (.cmp .gt (.v 5) (.k (.int 2))) (.call 19 [(.v 0), (.v 2)]) (.ix (.v 3) (.v 4)))])) (.sl (.v 3) [(.v 4)] [])), (.ix (.v 1) (.k (.int 2)))])] []
def bs6 : St := .ret (.tup [(.k (.str s_list)), (.bin .add (.bin .add (.sl (.v 3) [] [(.v 4)]) (.tup [(.call 30 [(.v 0), (.ix (.v 3) (.v 4)), (.v 2)])])) (.sl (.v 3) [(.bin .add (.v 4) (.k (.int 1)))] [])), (.ix (.v 1) (.k (.int 2)))])
theorem bent_code : c__law_bent = [bs1, bs2, bs3, bs4, bs5, bs6] := rfl
def bE (m : Nat) (l : List Dt) (t : Dt) (k way : Int) : Env := [some (.obj m), some (emb (.lst l t)), some (.lst (embs someL)), some (.tup (embs l)), some (.int k), some (.int way)]
theorem bent_run {n m : Nat} {X : D} {M : Mem} {R : R D} (h : (match evSs (callN fns n) [bs1, bs2, bs3, bs4, bs5, bs6] [some (.obj m), some X, some (.lst (embs someL)), none, none, none] M with
      | .nx _ m1 => MP.R.ok D.non m1
      | .rt d m1 => MP.R.ok d m1
      | _ => MP.R.stop) = R) : callN fns (n + 1) 30 [.obj m, X, .lst (embs someL)] M = R := by
  rw [call__law_bent, run_fn rfl, ← h]
  rfl
theorem take_tup {cf : CF} {m : Nat} {l : List Dt} {t : Dt} {k : Nat} {way : Int} {M : Mem} : ev cf (.sl (.v 3) [] [(.v 4)]) (bE m l t (k : Int) way) M = .ok (.tup (embs (l.take k))) M := by
  have h := slt_take (l := embs l) (k := k) (m := M)
  simp [bE, boundOf, h, embs_take]
theorem drop_tup {cf : CF} {m : Nat} {l : List Dt} {t : Dt} {k : Nat} {way : Int} {M : Mem} : ev cf (.sl (.v 3) [(.v 4)] []) (bE m l t (k : Int) way) M = .ok (.tup (embs (l.drop k))) M := by
  have h := slt_drop (l := embs l) (k := k) (m := M)
  simp [bE, boundOf, h, embs_drop]
theorem drop_tup1 {cf : CF} {m : Nat} {l : List Dt} {t : Dt} {k : Nat} {way : Int} {M : Mem} : ev cf (.sl (.v 3) [(.bin .add (.v 4) (.k (.int 1)))] []) (bE m l t (k : Int) way) M = .ok (.tup (embs (l.drop (k + 1)))) M := by
  have h := slt_drop (l := embs l) (k := k + 1) (m := M)
  have hk : (k : Int) + 1 = ((k + 1 : Nat) : Int) := by omega
  rw [← hk] at h
  simp [bE, boundOf, h, embs_drop]
theorem tail_tup {cf : CF} {m : Nat} {l : List Dt} {t : Dt} {k way : Int} {M : Mem} : ev cf (.ix (.v 1) (.k (.int 2))) (bE m l t k way) M = .ok (emb t) M := by
  simp [bE, emb]
theorem add_embs {a b : List Dt} {m : Mem} (h : a.length + b.length < 1000000) : binD .add (.tup (embs a)) (.tup (embs b)) m = .ok (.tup (embs (a ++ b))) m := by
  rw [add_tup (by rw [embs_len, embs_len]; exact h), embs_app]
theorem put_tup {cf : CF} {m : Nat} {l : List Dt} {t x : Dt} {k : Nat} {way : Int} {M M' : Mem} {e hi : Ex} {r : List Dt} (he : ev cf e (bE m l t (k : Int) way) M = .ok (emb x) M') (hh : ev cf hi (bE m l t (k : Int) way) M' = .ok (.tup (embs r)) M') (hl : l.length < 1000) (hr : r.length < 1000) :
    ev cf (.bin .add (.bin .add (.sl (.v 3) [] [(.v 4)]) (.tup [e])) hi) (bE m l t (k : Int) way) M = .ok (.tup (embs (l.take k ++ [x] ++ r))) M' := by
  have ht : (l.take k).length ≤ l.length := by rw [List.length_take]; exact Nat.min_le_right _ _
  have h1 : binD .add (.tup (embs (l.take k))) (.tup [emb x]) M' = .ok (.tup (embs (l.take k ++ [x]))) M' := add_embs (b := [x]) (by simp; omega)
  have h2 : binD .add (.tup (embs (l.take k ++ [x]))) (.tup (embs r)) M' = .ok (.tup (embs (l.take k ++ [x] ++ r))) M' := add_embs (by simp; omega)
  rw [ev_bin, ev_bin, take_tup]
  simp only [ev_tup, evs_cons, evs_nil, he]
  rw [show okLen [emb x] = true from rfl]
  simp only [if_true, h1, hh, h2]
theorem get_tup {cf : CF} {m : Nat} {l : List Dt} {t x : Dt} {k : Nat} {way : Int} {M : Mem} (h : l[k]? = some x) : ev cf (.ix (.v 3) (.v 4)) (bE m l t (k : Int) way) M = .ok (emb x) M := by
  simp [bE, idx_nat, embs_get, h]
theorem lst_tup {cf : CF} {r : Env} {M M1 M2 : Mem} {ea eb : Ex} {ys : List Dt} {t : Dt} (h1 : ev cf ea r M = .ok (.tup (embs ys)) M1) (h2 : ev cf eb r M1 = .ok (emb t) M2) : ev cf (.tup [(.k (.str s_list)), ea, eb]) r M = .ok (emb (.lst ys t)) M2 := by
  simp only [ev_tup, evs_cons, evs_nil, ev_k, h1, h2, emb]
  rfl
theorem gds_take {c : Nat} {l : List Dt} (h : gds c l = true) (k : Nat) : gds c (l.take k) = true := gds_all.mpr fun x hx => gds_all.mp h x (List.mem_of_mem_take hx)
theorem gds_drop {c : Nat} {l : List Dt} (h : gds c l = true) (k : Nat) : gds c (l.drop k) = true := gds_all.mpr fun x hx => gds_all.mp h x (List.mem_of_mem_drop hx)
theorem gds_app {c : Nat} {a b : List Dt} (h : gds c a = true) (g : gds c b = true) : gds c (a ++ b) = true := gds_all.mpr fun x hx => by
  rcases List.mem_append.mp hx with q | q
  · exact gds_all.mp h x q
  · exact gds_all.mp g x q
theorem dps_mem_le {a l : List Dt} {d : Nat} (h : ∀ x ∈ a, x ∈ l ∨ dp x ≤ d) (hd : dps l ≤ d) : dps a ≤ d := dps_le.mpr fun x hx => by
  rcases h x hx with q | q
  · exact Nat.le_trans (mem_dps q) hd
  · exact q
theorem bent_list {n m c : Nat} {l : List Dt} {t : Dt} {k : Nat} {way B : Int} {M : Mem} {x0 : Dt} (hM : Mc M m B) (hB : B + 10 < 700000000) (hg : gd c (.lst l t) = true) (hc : 7 ≤ c) (hc2 : c < 900) (hk : l[k]? = some x0) (hw0 : 0 ≤ way)
    (ih : ∃ y M', callN fns (n + 2) 30 [.obj m, emb x0, .lst (embs someL)] M = .ok (emb y) M' ∧ Bt c x0 y ∧ Mc M' m (B + 4 * (dp x0 + 1 : Nat)) ∧ Kp m M M') :
    ∃ y M', (match evSs (callN fns (n + 2)) [bs3, bs4, bs5, bs6] (bE m l t (k : Int) way) M with
      | .nx _ m1 => MP.R.ok D.non m1
      | .rt d m1 => MP.R.ok d m1
      | _ => MP.R.stop) = .ok (emb y) M' ∧ Bt c (.lst l t) y ∧ Mc M' m (B + 1 + 4 * (dp x0 + 1 : Nat)) ∧ Kp m M M' := by
  simp only [gd, Bool.and_eq_true, decide_eq_true_eq] at hg
  have hkl : k < l.length := (List.getElem?_eq_some_iff.mp hk).1
  have hmem : x0 ∈ l := List.mem_of_getElem? hk
  have hg0 := gds_all.mp hg.2.2.1 x0 hmem
  have hgl := gds_mono (show c ≤ c + 1 by omega) l hg.2.2.1
  have hgt := gd_mono (show c ≤ c + 1 by omega) t hg.2.2.2
  have hwt := wn_pos t
  have hsplit := wns_take l k
  have hdk : l.drop k = x0 :: l.drop (k + 1) := by
    rw [List.drop_eq_getElem_cons hkl]
    congr 1
    rw [List.getElem?_eq_getElem hkl] at hk
    exact Option.some.inj hk
  have hw1 : wns (l.drop k) = wn x0 + wns (l.drop (k + 1)) := by rw [hdk, wns]
  have hd0 := mem_dps hmem
  -- rows that are made of the old one
  have row : ∀ (x : Dt) (r : List Dt), r = l.drop k ∨ r = l.drop (k + 1) → gd (c + 1) x = true → dp x ≤ dps l → wn x + wns r + wns (l.take k) ≤ wns l + wn x0 → Bt c (.lst l t) (.lst (l.take k ++ [x] ++ r) t) := by
    intro x r hr g1 g2 g4
    have hlr : r.length + k ≤ l.length := by
      rcases hr with rfl | rfl <;> simp <;> omega
    have hgr : gds (c + 1) r = true := by
      rcases hr with rfl | rfl <;> exact gds_drop hgl _
    have hwr : wns r ≤ wns (l.drop k) := by
      rcases hr with rfl | rfl
      · exact Nat.le_refl _
      · omega
    refine ⟨?_, ?_, ?_⟩
    · simp only [gd, Bool.and_eq_true, decide_eq_true_eq]
      refine ⟨by simp, by simp; omega, gds_app (gds_app (gds_take hgl k) (by simp [gds, g1])) hgr, hgt⟩
    · have h1 : dps (l.take k ++ [x] ++ r) ≤ dps l := dps_mem_le (l := l) (fun z hz => by
        simp only [List.mem_append, List.mem_singleton] at hz
        rcases hz with (hz | hz) | hz
        · exact .inl (List.mem_of_mem_take hz)
        · exact .inr (by rw [hz]; exact g2)
        · rcases hr with rfl | rfl
          · exact .inl (List.mem_of_mem_drop hz)
          · exact .inl (List.mem_of_mem_drop hz)) (Nat.le_refl _)
      simp only [dp]
      omega
    · simp only [wn, wns_app, wns]
      have := mem_wns hmem
      omega
  by_cases h0 : way = 0
  · subst h0
    obtain ⟨y, M', e, y1, y2, hm, hk'⟩ := of_some (n := n) (L := [.wrd s__, .wrd s_p1, .num 5]) hM (by simp) (by simp) (fun x hx => by
      simp only [List.mem_cons, List.not_mem_nil, or_false] at hx
      rcases hx with rfl | rfl | rfl <;> exact ⟨rfl, by decide⟩) (by omega)
    refine ⟨.lst l y, M', ?_, ⟨?_, ?_, ?_⟩, hm.le (by omega), hk'⟩
    · have e : callN fns (n + 2) 19 [.obj m, .lst [.tup [.str s_name, .str s__], .tup [.str s_name, .str s_p1], .int 5]] M = .ok (emb y) M' := e
      simp [bs3, bE, e, emb]
    · simp only [gd, Bool.and_eq_true, decide_eq_true_eq]
      exact ⟨hg.1, by omega, hgl, gd_mono (by omega) y y2⟩
    · have : dp y = 0 := by cases y <;> simp [dp, isL] at *
      simp only [dp]
      omega
    · have : wn y = 1 := by cases y <;> simp [wn, isL] at *
      simp only [wn]
      omega
  · have h0' : (way == 0) = false := by simpa using h0
    have s3 : evS (callN fns (n + 2)) bs3 (bE m l t (k : Int) way) M = .nx (bE m l t (k : Int) way) M := by simp [bs3, bE, h0']
    rw [evSs_cons, s3]
    simp only
    by_cases h1 : way = 1 ∧ 1 < l.length
    · obtain ⟨rfl, hl1⟩ := h1
      have t4 : ev (callN fns (n + 2)) (.and (.cmp .eq (.v 5) (.k (.int 1))) (.cmp .gt (.bi .len [(.v 3)]) (.k (.int 1)))) (bE m l t (k : Int) 1) M = .ok (.bl true) M := by
        have : (1 : Int) < (l.length : Int) := by omega
        simp [bE, this]
      have ha : binD .add (.tup (embs (l.take k))) (.tup (embs (l.drop (k + 1)))) M = .ok (.tup (embs (l.take k ++ l.drop (k + 1)))) M := add_embs (by simp; omega)
      have h2 : ev (callN fns (n + 2)) (.bin .add (.sl (.v 3) [] [(.v 4)]) (.sl (.v 3) [(.bin .add (.v 4) (.k (.int 1)))] [])) (bE m l t (k : Int) 1) M = .ok (.tup (embs (l.take k ++ l.drop (k + 1)))) M := by
        rw [ev_bin, take_tup]
        simp only [drop_tup1, ha]
      refine ⟨.lst (l.take k ++ l.drop (k + 1)) t, M, ?_, ⟨?_, ?_, ?_⟩, hM.le (by omega), .refl m M⟩
      · rw [evSs_cons]
        unfold bs4
        rw [evS_ite, t4]
        simp only [test_ok', truth_b, evSs_cons, evS_ret]
        rw [lst_tup h2 tail_tup]
      · simp only [gd, Bool.and_eq_true, decide_eq_true_eq]
        refine ⟨?_, by simp; omega, gds_app (gds_take hgl k) (gds_drop hgl _), hgt⟩
        have : 0 < (l.take k ++ l.drop (k + 1)).length := by simp; omega
        cases hz : l.take k ++ l.drop (k + 1) with
        | nil => rw [hz] at this; cases this
        | cons a r => rfl
      · have h1 : dps (l.take k ++ l.drop (k + 1)) ≤ dps l := dps_mem_le (l := l) (fun z hz => by
          rcases List.mem_append.mp hz with hz | hz
          · exact .inl (List.mem_of_mem_take hz)
          · exact .inl (List.mem_of_mem_drop hz)) (Nat.le_refl _)
        simp only [dp]
        omega
      · simp only [wn, wns_app]
        omega
    · have t4 : ev (callN fns (n + 2)) (.and (.cmp .eq (.v 5) (.k (.int 1))) (.cmp .gt (.bi .len [(.v 3)]) (.k (.int 1)))) (bE m l t (k : Int) way) M = .ok (.bl false) M := by
        by_cases hz : way = 1
        · have : ¬ ((1 : Int) < (l.length : Int)) := by
            intro q
            exact h1 ⟨hz, by omega⟩
          simp [bE, hz, this]
        · have : (way == 1) = false := by simpa using hz
          simp [bE, this]
      have s4 : evS (callN fns (n + 2)) bs4 (bE m l t (k : Int) way) M = .nx (bE m l t (k : Int) way) M := by
        unfold bs4
        rw [evS_ite, t4]
        rfl
      rw [evSs_cons, s4]
      simp only
      by_cases h5 : way < 5
      · have t5 : ev (callN fns (n + 2)) (.cmp .lt (.v 5) (.k (.int 5))) (bE m l t (k : Int) way) M = .ok (.bl true) M := by simp [bE, h5]
        by_cases h2 : 2 < way
        · obtain ⟨y, M', e, y1, y2, hm, hk'⟩ := of_some (n := n) (L := someL) hM (by simp [someL]) (by simp [someL]) someL_ok (by omega)
          have he : ev (callN fns (n + 2)) (.ite (.cmp .gt (.v 5) (.k (.int 2))) (.call 19 [(.v 0), (.v 2)]) (.ix (.v 3) (.v 4))) (bE m l t (k : Int) way) M = .ok (emb y) M' := by
            simp [bE, h2, e]
          refine ⟨.lst (l.take k ++ [y] ++ l.drop k) t, M', ?_, row y _ (.inl rfl) (gd_mono (by omega) y y2) ?_ ?_, hm.le (by omega), hk'⟩
          · rw [evSs_cons]
            unfold bs5
            rw [evS_ite, t5]
            simp only [test_ok', truth_b, evSs_cons, evS_ret]
            rw [lst_tup (put_tup he drop_tup (by omega) (by simp; omega)) tail_tup]
          · have : dp y = 0 := by cases y <;> simp [dp, isL] at *
            omega
          · have : wn y = 1 := by cases y <;> simp [wn, isL] at *
            have := wn_pos x0
            omega
        · have he : ev (callN fns (n + 2)) (.ite (.cmp .gt (.v 5) (.k (.int 2))) (.call 19 [(.v 0), (.v 2)]) (.ix (.v 3) (.v 4))) (bE m l t (k : Int) way) M = .ok (emb x0) M := by
            simp [bE, h2, idx_nat, embs_get, hk]
          refine ⟨.lst (l.take k ++ [x0] ++ l.drop k) t, M, ?_, row x0 _ (.inl rfl) (gd_mono (by omega) x0 hg0) hd0 (by omega), hM.le (by omega), .refl m M⟩
          rw [evSs_cons]
          unfold bs5
          rw [evS_ite, t5]
          simp only [test_ok', truth_b, evSs_cons, evS_ret]
          rw [lst_tup (put_tup he drop_tup (by omega) (by simp; omega)) tail_tup]
      · have s5 : evS (callN fns (n + 2)) bs5 (bE m l t (k : Int) way) M = .nx (bE m l t (k : Int) way) M := by simp [bs5, bE, h5]
        obtain ⟨y, M', e, hy, hm, hk'⟩ := ih
        have he : ev (callN fns (n + 2)) (.call 30 [(.v 0), (.ix (.v 3) (.v 4)), (.v 2)]) (bE m l t (k : Int) way) M = .ok (emb y) M' := by
          simp [bE, idx_nat, embs_get, hk, e]
        refine ⟨.lst (l.take k ++ [y] ++ l.drop (k + 1)) t, M', ?_, row y _ (.inr rfl) hy.g (Nat.le_trans hy.d hd0) ?_, hm.le (by omega), hk'⟩
        · rw [evSs_cons, s5]
          simp only
          unfold bs6
          simp only [evSs_cons, evS_ret]
          rw [lst_tup (put_tup he drop_tup1 (by omega) (by simp; omega)) tail_tup]
        · have := hy.w
          omega
end K96
set_option autoImplicit false
set_option linter.all false
set_option maxRecDepth 10000
namespace K96
open MP
theorem bent_atom {n m : Nat} {X : D} {B : Int} {M M1 : Mem} {rest : List St} (ht : ev (callN fns (n + 2)) (.or (.not (.call 21 [(.v 1)])) (.cmp .eq (.call 18 [(.v 0), (.k (.int 6))]) (.k (.int 0)))) [some (.obj m), some X, some (.lst (embs someL)), none, none, none] M = .ok (.bl true) M1) (h : Mc M1 m B) (hB : B < 900000000) :
    ∃ y M', (match evSs (callN fns (n + 2)) (bs1 :: rest) [some (.obj m), some X, some (.lst (embs someL)), none, none, none] M with
      | .nx _ m1 => MP.R.ok D.non m1
      | .rt d m1 => MP.R.ok d m1
      | _ => MP.R.stop) = .ok (emb y) M' ∧ isL y = false ∧ gd 7 y = true ∧ Mc M' m (B + 1) ∧ Kp m M1 M' := by
  obtain ⟨y, M', e, y1, y2, hm, hk⟩ := of_some (n := n) (L := someL) h (by simp [someL]) (by simp [someL]) someL_ok (by omega)
  refine ⟨y, M', ?_, y1, y2, hm, hk⟩
  rw [evSs_cons]
  unfold bs1
  rw [evS_ite, ht]
  simp [e]
theorem e_bent {m c : Nat} (hc : 7 ≤ c) (hc2 : c < 900) : ∀ (x : Dt) (n : Nat) (M : Mem) (B : Int), dp x + 3 ≤ n → gd c x = true → Mc M m B → B + 4 * (dp x + 1 : Nat) + 20 < 600000000 →
    ∃ y M', callN fns n 30 [.obj m, emb x, .lst (embs someL)] M = .ok (emb y) M' ∧ Bt c x y ∧ Mc M' m (B + 4 * (dp x + 1 : Nat)) ∧ Kp m M M' := by
  intro x
  induction x using Dt.ind with
  | h1 l t hl ht =>
    intro n M B hn hg hM hB
    have hdp : dp (.lst l t) = max (dps l) (dp t) + 1 := rfl
    obtain ⟨n2, rfl⟩ : ∃ n2, n = n2 + 3 := ⟨n - 3, by omega⟩
    have hg2 := hg
    simp only [gd, Bool.and_eq_true, decide_eq_true_eq] at hg2
    have il := e_law_is_list (n2 + 1) (.lst l t) M
    obtain ⟨w, M1, e, w0, w1, hm, hk⟩ := e_draw (n := n2 + 1) (b := 6) hM (by omega) (by omega) (by omega)
    by_cases hz : w = 0
    · subst hz
      have htest : ev (callN fns (n2 + 2)) (.or (.not (.call 21 [(.v 1)])) (.cmp .eq (.call 18 [(.v 0), (.k (.int 6))]) (.k (.int 0)))) [some (.obj m), some (emb (.lst l t)), some (.lst (embs someL)), none, none, none] M = .ok (.bl true) M1 := by
        simp [il, isL, e]
      obtain ⟨y, M', e2, y1, y2, hm2, hk2⟩ := bent_atom (rest := [bs2, bs3, bs4, bs5, bs6]) htest hm (by omega)
      exact ⟨y, M', bent_run e2, .atom y1 y2 hc, hm2.le (by omega), hk.trans hk2⟩
    · have hz' : (w == 0) = false := by simpa using hz
      have htest : ev (callN fns (n2 + 2)) (.or (.not (.call 21 [(.v 1)])) (.cmp .eq (.call 18 [(.v 0), (.k (.int 6))]) (.k (.int 0)))) [some (.obj m), some (emb (.lst l t)), some (.lst (embs someL)), none, none, none] M = .ok (.bl false) M1 := by
        simp [il, isL, e, hz']
      have s1 : evS (callN fns (n2 + 2)) bs1 [some (.obj m), some (emb (.lst l t)), some (.lst (embs someL)), none, none, none] M = .nx [some (.obj m), some (emb (.lst l t)), some (.lst (embs someL)), none, none, none] M1 := by
        unfold bs1
        rw [evS_ite, htest]
        rfl
      have hl1 : 1 ≤ l.length := by
        cases l with
        | nil => simp at hg2
        | cons a r => simp
      obtain ⟨u, M2, e2, u0, u1, hm2, hk2⟩ := e_draw (n := n2 + 1) (b := (l.length : Int)) hm (by omega) (by omega) (by omega)
      obtain ⟨v, M3, e3, v0, v1, hm3, hk3⟩ := e_draw (n := n2 + 1) (b := 10) hm2 (by omega) (by omega) (by omega)
      obtain ⟨k, rfl⟩ := Int.eq_ofNat_of_zero_le u0
      have hkl : k < l.length := by omega
      have s2 : evS (callN fns (n2 + 2)) bs2 [some (.obj m), some (emb (.lst l t)), some (.lst (embs someL)), none, none, none] M1 = .nx (bE m l t (k : Int) v) M3 := by
        simp [bs2, bE, emb, e2, e3]
      have hget : l[k]? = some l[k] := List.getElem?_eq_getElem hkl
      have hmem : l[k] ∈ l := List.getElem_mem hkl
      have hd0 := mem_dps hmem
      have ih := hl l[k] hmem (n2 + 2) M3 (B + 1 + 1 + 1) (by omega) (gds_all.mp hg2.2.2.1 _ hmem) hm3 (by omega)
      obtain ⟨y, M', e4, hy, hm4, hk4⟩ := bent_list (n := n2) hm3 (by omega) hg hc hc2 hget v0 ih
      refine ⟨y, M', bent_run ?_, hy, hm4.le (by omega), ((hk.trans hk2).trans hk3).trans hk4⟩
      rw [evSs_cons, s1]
      simp only
      rw [evSs_cons, s2]
      exact e4
  | h2 s =>
    intro n M B hn hg hM hB
    obtain ⟨n2, rfl⟩ : ∃ n2, n = n2 + 3 := ⟨n - 3, by omega⟩
    have il := e_law_is_list (n2 + 1) (.wrd s) M
    obtain ⟨y, M', e2, y1, y2, hm2, hk2⟩ := bent_atom (n := n2) (X := emb (.wrd s)) (M := M) (rest := [bs2, bs3, bs4, bs5, bs6]) (by simp [il, isL]) hM (by omega)
    exact ⟨y, M', bent_run e2, .atom y1 y2 hc, hm2.le (by omega), hk2⟩
  | h3 i =>
    intro n M B hn hg hM hB
    obtain ⟨n2, rfl⟩ : ∃ n2, n = n2 + 3 := ⟨n - 3, by omega⟩
    have il := e_law_is_list (n2 + 1) (.num i) M
    obtain ⟨y, M', e2, y1, y2, hm2, hk2⟩ := bent_atom (n := n2) (X := emb (.num i)) (M := M) (rest := [bs2, bs3, bs4, bs5, bs6]) (by simp [il, isL]) hM (by omega)
    exact ⟨y, M', bent_run e2, .atom y1 y2 hc, hm2.le (by omega), hk2⟩
  | h4 =>
    intro n M B hn hg hM hB
    obtain ⟨n2, rfl⟩ : ∃ n2, n = n2 + 3 := ⟨n - 3, by omega⟩
    have il := e_law_is_list (n2 + 1) .tru M
    obtain ⟨y, M', e2, y1, y2, hm2, hk2⟩ := bent_atom (n := n2) (X := emb .tru) (M := M) (rest := [bs2, bs3, bs4, bs5, bs6]) (by simp [il, isL]) hM (by omega)
    exact ⟨y, M', bent_run e2, .atom y1 y2 hc, hm2.le (by omega), hk2⟩
  | h5 =>
    intro n M B hn hg hM hB
    obtain ⟨n2, rfl⟩ : ∃ n2, n = n2 + 3 := ⟨n - 3, by omega⟩
    have il := e_law_is_list (n2 + 1) .nil M
    obtain ⟨y, M', e2, y1, y2, hm2, hk2⟩ := bent_atom (n := n2) (X := emb .nil) (M := M) (rest := [bs2, bs3, bs4, bs5, bs6]) (by simp [il, isL]) hM (by omega)
    exact ⟨y, M', bent_run e2, .atom y1 y2 hc, hm2.le (by omega), hk2⟩
end K96
set_option autoImplicit false
set_option linter.all false
set_option maxRecDepth 10000
namespace K96
open MP
/-! ### what the mirrors hand back is small -/
def Pok (N : Nat) (q : List Nat) : Prop := q.length ≤ N ∧ ∀ k ∈ q, k ≤ 1000
theorem Pok.add {N : Nat} {p : List Nat} {k : Nat} (h : Pok N p) (hk : k ≤ 1000) : Pok (N + 1) (p ++ [k]) := ⟨by simp; exact h.1, fun j hj => by
  rcases List.mem_append.mp hj with q | q
  · exact h.2 j q
  · rw [List.mem_singleton.mp q]; exact hk⟩
theorem Pok.le {N N' : Nat} {p : List Nat} (h : Pok N p) (hn : N ≤ N') : Pok N' p := ⟨Nat.le_trans h.1 hn, h.2⟩
/-- names of a rule: short, of small depth, no two alike -/
structure Nk (D : Nat) (nm : NM) : Prop where
  short : ∀ q ∈ nm, q.1.length ≤ 40
  deep : ∀ q ∈ nm, q.2 ≤ D
  nd : (nm.map (·.1)).Nodup
theorem Nk.le {D E : Nat} {nm : NM} (h : Nk D nm) (hd : D ≤ E) : Nk E nm := ⟨h.short, fun q hq => Nat.le_trans (h.deep q hq) hd, h.nd⟩
theorem has_mem {nm : NM} {s : List Nat} : has nm s = true ↔ s ∈ nm.map (·.1) := by
  unfold has
  rw [List.any_eq_true]
  constructor
  · rintro ⟨q, hq, e⟩
    exact List.mem_map.mpr ⟨q, hq, by simpa using e⟩
  · intro h
    obtain ⟨q, hq, e⟩ := List.mem_map.mp h
    exact ⟨q, hq, by simpa using e⟩
theorem Nk.add {D : Nat} {nm : NM} {s : List Nat} {d : Nat} (h : Nk D nm) (hs : s.length ≤ 40) (hd : d ≤ D) (hn : has nm s = false) : Nk D (nm ++ [(s, d)]) := by
  refine ⟨fun q hq => ?_, fun q hq => ?_, ?_⟩
  · rcases List.mem_append.mp hq with z | z
    · exact h.short q z
    · rw [List.mem_singleton.mp z]; exact hs
  · rcases List.mem_append.mp hq with z | z
    · exact h.deep q z
    · rw [List.mem_singleton.mp z]; exact hd
  · rw [List.map_append, List.nodup_append]
    refine ⟨h.nd, by simp, ?_⟩
    intro a ha b hb e
    simp only [List.map_cons, List.map_nil, List.mem_singleton] at hb
    rw [e, hb] at ha
    rw [has_mem.mpr ha] at hn
    cases hn
mutual
theorem pF_ok {c : Nat} (hc : c ≤ 1000) : ∀ (x : Dt) (nm : NM) (p : List Nat) (d D N : Nat), gd c x = true → Nk D nm → d + dp x ≤ D → Pok N p → Nk D (pF nm x p d).2 ∧ ∀ q, (pF nm x p d).1 = some q → Pok (N + dp x + 1) q
  | .lst l t, nm, p, d, D, N, g, hn, hd, hp => by
    simp only [gd, Bool.and_eq_true, decide_eq_true_eq] at g
    simp only [dp] at hd ⊢
    have h1 := pI_ok hc l nm 0 true false p d D N g.2.2.1 hn (by omega) hp (by omega)
    simp only [pF]
    cases e : pI nm l 0 true false p d with
    | mk a nm' =>
      rw [e] at h1
      cases a with
      | some q => exact ⟨h1.1, fun q' hq => (h1.2 q' hq).le (by omega)⟩
      | none =>
        have h2 := pF_ok hc t nm' (p ++ [l.length]) d D (N + 1) g.2.2.2 h1.1 (by omega) (hp.add (by omega))
        exact ⟨h2.1, fun q hq => (h2.2 q hq).le (by omega)⟩
  | .wrd s, nm, p, d, D, N, g, hn, hd, hp => by
    simp only [gd, decide_eq_true_eq] at g
    simp only [dp] at hd
    simp only [pF]
    split
    · exact ⟨hn, fun q hq => by cases hq; exact hp.le (by omega)⟩
    · rename_i hh
      split
      · refine ⟨hn.add g (by omega) ?_, fun q hq => by cases hq⟩
        cases h : has nm s
        · rfl
        · rw [h, Bool.or_true] at hh
          exact absurd rfl hh
      · exact ⟨hn, fun q hq => by cases hq⟩
  | .num _, nm, p, d, D, N, g, hn, hd, hp => ⟨hn, fun q hq => by cases hq⟩
  | .tru, nm, p, d, D, N, g, hn, hd, hp => ⟨hn, fun q hq => by cases hq⟩
  | .nil, nm, p, d, D, N, g, hn, hd, hp => ⟨hn, fun q hq => by cases hq⟩
theorem pI_ok {c : Nat} (hc : c ≤ 1000) : ∀ (l : List Dt) (nm : NM) (k : Nat) (fst mk : Bool) (p : List Nat) (d D N : Nat), gds c l = true → Nk D nm → d + dps l + 1 ≤ D → Pok N p → k + l.length ≤ 1000 → Nk D (pI nm l k fst mk p d).2 ∧ ∀ q, (pI nm l k fst mk p d).1 = some q → Pok (N + dps l + 2) q
  | [], nm, k, fst, mk, p, d, D, N, g, hn, hd, hp, hk => ⟨hn, fun q hq => by cases hq⟩
  | x :: r, nm, k, fst, mk, p, d, D, N, g, hn, hd, hp, hk => by
    simp only [gds, Bool.and_eq_true] at g
    simp only [dps] at hd ⊢
    simp only [List.length_cons] at hk
    simp only [pI]
    split
    · split
      · exact ⟨hn, fun q hq => by cases hq; exact (hp.add (by omega)).le (by omega)⟩
      · have h := pI_ok hc r nm (k + 1) false true p d D N g.2 hn (by omega) hp (by omega)
        exact ⟨h.1, fun q hq => (h.2 q hq).le (by omega)⟩
    · have hh : headM r ≤ 1 := by
        cases r with
        | nil => simp [headM]
        | cons y r => simp only [headM]; split <;> omega
      have h1 := pF_ok hc x nm (p ++ [k]) (d + headM r) D (N + 1) g.1 hn (by omega) (hp.add (by omega))
      cases e : pF nm x (p ++ [k]) (d + headM r) with
      | mk a nm' =>
        rw [e] at h1
        cases a with
        | some q => exact ⟨h1.1, fun q' hq => (h1.2 q' hq).le (by omega)⟩
        | none =>
          have h2 := pI_ok hc r nm' (k + 1) false mk p d D N g.2 h1.1 (by omega) hp (by omega)
          exact ⟨h2.1, fun q hq => (h2.2 q hq).le (by omega)⟩
end
theorem nk_nil (D : Nat) : Nk D [] := ⟨fun q h => (by cases h), fun q h => (by cases h), by simp⟩
theorem pok_nil (N : Nat) : Pok N [] := ⟨by simp, fun k h => (by cases h)⟩
theorem wF_ok {c : Nat} (hc : c ≤ 1000) {x : Dt} (g : gd c x = true) : Nk (dp x) (wF [] x).2 ∧ (wF [] x).2.length ≤ wn x ∧ ∀ q, (wF [] x).1 = some q → Pok (dp x + 2) q := by
  cases x with
  | lst l t =>
    simp only [gd, Bool.and_eq_true, decide_eq_true_eq] at g
    have h1 := pI_ok hc (l.drop 1) [] 1 true false [] 0 (dp (.lst l t)) 0 (gds_drop g.2.2.1 1) (nk_nil _) (by have := drop_dps l; simp only [dp]; omega) (pok_nil 0) (by simp only [List.length_drop]; omega)
    have l1 := pI_len (l.drop 1) [] 1 true false [] 0
    have w1 := drop_wns l
    have d1 := drop_dps l
    simp only [wF, pR, wn]
    cases e : pI [] (l.drop 1) 1 true false [] 0 with
    | mk a nm' =>
      rw [e] at h1 l1
      simp only [List.length_nil] at l1
      cases a with
      | some q => exact ⟨h1.1, by simp only; omega, fun q' hq => (h1.2 q' hq).le (by simp only [dp]; omega)⟩
      | none =>
        have h2 := pF_ok hc t nm' ([] ++ [l.length]) 0 (dp (.lst l t)) 1 g.2.2.2 h1.1 (by simp only [dp]; omega) ((pok_nil 0).add (by omega))
        have l2 := pF_len t nm' ([] ++ [l.length]) 0
        exact ⟨h2.1, by simp only; omega, fun q hq => (h2.2 q hq).le (by simp only [dp]; omega)⟩
  | _ => exact ⟨nk_nil _, by simp [wF], fun q hq => by cases hq; exact pok_nil _⟩
theorem tF_ok {c : Nat} (hc : c ≤ 1000) (nm : NM) : ∀ (x : Dt) (p : List Nat) (d : Nat) (b : Bool) (N : Nat) (q : List Nat), gd c x = true → Pok N p → tF nm x p d b = some q → Pok (N + dp x + 1) q := by
  intro x
  induction x using Dt.ind with
  | h1 l t hl ht =>
    intro p d b N q g hp h
    simp only [gd, Bool.and_eq_true, decide_eq_true_eq] at g
    simp only [dp]
    have hI : ∀ (suf : List Dt) (k : Nat) (pm : Bool) (q : List Nat), (∀ x ∈ suf, x ∈ l) → k + suf.length ≤ 1000 → tI nm suf k pm p d b = some q → Pok (N + dps l + 2) q := by
      intro suf
      induction suf with
      | nil => intro k pm q _ _ h; cases h
      | cons x r ih =>
        intro k pm q hs hk h
        simp only [List.length_cons] at hk
        have hr : ∀ y ∈ r, y ∈ l := fun y hy => hs y (List.mem_cons_of_mem _ hy)
        have hx := hs x List.mem_cons_self
        simp only [tI] at h
        split at h
        · split at h
          · cases h; exact (hp.add (by omega)).le (by omega)
          · exact ih (k + 1) true q hr (by omega) h
        · split at h
          · cases h; exact (hp.add (by omega)).le (by omega)
          · split at h
            · rename_i q' hq'
              cases h
              have := hl x hx _ _ _ (N + 1) q (gds_all.mp g.2.2.1 x hx) (hp.add (by omega)) hq'
              have h2 := mem_dps hx
              exact this.le (by omega)
            · exact ih (k + 1) false q hr (by omega) h
    simp only [tF] at h
    split at h
    · match l, h with
      | [], h => cases h
      | [a], h => cases h
      | a :: y :: r, h =>
        simp only [tS, tS1] at h
        have := hl y (by simp) _ _ _ (N + 1) q (gds_all.mp g.2.2.1 y (by simp)) (hp.add (by omega)) h
        have h2 := mem_dps (l := a :: y :: r) (x := y) (by simp)
        exact this.le (by omega)
    · split at h
      · rename_i q' hq'
        cases h
        exact (hI l 0 true q (fun x hx => hx) (by omega) hq').le (by omega)
      · exact (ht _ _ _ (N + 1) q g.2.2.2 (hp.add (by omega)) h).le (by omega)
  | h2 s =>
    intro p d b N q g hp h
    simp only [tF] at h
    split at h
    · split at h
      · cases h
      · cases h; exact hp.le (by omega)
    · split at h
      · cases h; exact hp.le (by omega)
      · cases h
  | h3 i => intro p d b N q g hp h; simp [tF] at h
  | h4 => intro p d b N q g hp h; simp [tF] at h
  | h5 => intro p d b N q g hp h; simp [tF] at h
/-! ### texts of results -/
theorem same_ints : ∀ l : List Nat, D.sameAll (l.map fun (k : Nat) => D.int (k : Int)) (l.map fun (k : Nat) => D.int (k : Int)) = true
  | [] => rfl
  | x :: r => by simp [D.sameAll, D.same, same_ints r]
theorem same_pth (p : List Nat) : D.same (pth p) (pth p) = true := by
  unfold pth
  simp only [D.same, same_ints]
theorem pure_ints (l : List Nat) : D.pureAll (l.map fun (k : Nat) => D.int (k : Int)) = true := by
  induction l with
  | nil => rfl
  | cons a r ih => simp [ih]
theorem depth_ints (l : List Nat) : D.depthAll (l.map fun (k : Nat) => D.int (k : Int)) = 0 := by
  induction l with
  | nil => rfl
  | cons a r ih => simp [ih]
theorem wide_nat {k : Nat} (h : k ≤ 1000) : D.wide (.int (k : Int)) = 41 := by
  have : ((k : Int)).natAbs < 10 ^ 40 := Nat.lt_of_le_of_lt (show ((k : Int)).natAbs ≤ 1000 by omega) (by decide)
  simp only [D.wide]
  rw [if_pos this]
theorem wide_ints : ∀ l : List Nat, (∀ k ∈ l, k ≤ 1000) → D.wideAll (l.map fun (k : Nat) => D.int (k : Int)) = 43 * l.length
  | [], _ => rfl
  | x :: r, h => by
    have h1 := wide_nat (h x List.mem_cons_self)
    have h2 := wide_ints r fun k hk => h k (List.mem_cons_of_mem _ hk)
    simp only [List.map_cons, D.wideAll, h1, h2, List.length_cons]
    omega
/-- a fault as the law and the package tell it -/
def flt (kind : List Nat) : Option (List Nat) → D
  | none => .non
  | some q => .tup [.str kind, pth q]
theorem flt_show {kind : List Nat} {r : Option (List Nat)} (hk : kind.length ≤ 40) (h : ∀ q, r = some q → Pok 1000 q) : D.same (flt kind r) (flt kind r) = true ∧ showOk (flt kind r) = true := by
  cases r with
  | none => exact ⟨rfl, by show showOk D.non = true; decide⟩
  | some q =>
    have hq := h q rfl
    refine ⟨?_, ?_⟩
    · simp [flt, D.same, D.sameAll, same_pth]
    · have h1 := wide_ints q hq.2
      have h2 := hq.1
      have hw : D.wide (flt kind (some q)) ≤ 16777216 := by
        simp only [flt, pth, D.wide, D.wideAll, h1]
        omega
      simp only [showOk, Bool.and_eq_true, decide_eq_true_eq]
      refine ⟨⟨?_, ?_⟩, hw⟩
      · simp [flt, pth, pure_ints]
      · simp [flt, pth, depth_ints]
theorem repr_eq {n : Bool} {a : D} {M : Mem} (h : D.same a a = true ∧ showOk a = true) : reprEqD n a a M = .ok (.bl (!n)) M := by
  unfold reprEqD
  rw [h.1, h.2]
  rfl
theorem nms_same : ∀ nm : NM, D.sameAll (pairsOf (nms nm)) (pairsOf (nms nm)) = true
  | [] => rfl
  | q :: r => by
    have := nms_same r
    show (D.same (.tup [.str q.1, .int (q.2 : Int)]) (.tup [.str q.1, .int (q.2 : Int)]) && D.sameAll (pairsOf (nms r)) (pairsOf (nms r))) = true
    rw [this]
    simp [D.same, D.sameAll]
theorem nms_pure : ∀ nm : NM, D.pureAll (pairsOf (nms nm)) = true
  | [] => rfl
  | q :: r => by
    have := nms_pure r
    show (D.pure (.tup [.str q.1, .int (q.2 : Int)]) && D.pureAll (pairsOf (nms r))) = true
    rw [this]
    rfl
theorem nms_depth : ∀ nm : NM, D.depthAll (pairsOf (nms nm)) ≤ 1
  | [] => by simp [nms, pairsOf]
  | q :: r => by
    have := nms_depth r
    show Nat.max (D.depth (.tup [.str q.1, .int (q.2 : Int)])) (D.depthAll (pairsOf (nms r))) ≤ 1
    exact Nat.max_le.mpr ⟨by simp, this⟩
theorem nms_wide : ∀ nm : NM, (∀ q ∈ nm, q.1.length ≤ 40) → (∀ q ∈ nm, q.2 ≤ 1000) → D.wideAll (pairsOf (nms nm)) ≤ 500 * nm.length
  | [], _, _ => by simp [nms, pairsOf, D.wideAll]
  | q :: r, h, g => by
    have h1 := nms_wide r (fun k hk => h k (List.mem_cons_of_mem _ hk)) (fun k hk => g k (List.mem_cons_of_mem _ hk))
    have h2 := h q List.mem_cons_self
    have h3 := wide_nat (g q List.mem_cons_self)
    show D.wide (.tup [.str q.1, .int (q.2 : Int)]) + 2 + D.wideAll (pairsOf (nms r)) ≤ 500 * (q :: r).length
    rw [List.length_cons]
    have h4 : D.wide (.tup [.str q.1, .int (q.2 : Int)]) = 10 * q.1.length + 2 + 2 + (41 + 2 + 0) + 3 := by
      simp only [D.wide, D.wideAll] at h3 ⊢
      rw [h3]
    rw [h4]
    omega
theorem nms_show {nm : NM} {D : Nat} (h : Nk D nm) (hd : D ≤ 1000) (hl : nm.length ≤ 30000) : MP.D.same (.tup (pairsOf (nms nm))) (.tup (pairsOf (nms nm))) = true ∧ showOk (.tup (pairsOf (nms nm))) = true := by
  refine ⟨by simp only [MP.D.same, nms_same], ?_⟩
  have h1 := nms_wide nm h.short fun q hq => Nat.le_trans (h.deep q hq) hd
  have h2 := nms_depth nm
  have hw : MP.D.wide (.tup (pairsOf (nms nm))) ≤ 16777216 := by
    simp only [MP.D.wide]
    omega
  simp only [showOk, Bool.and_eq_true, decide_eq_true_eq]
  refine ⟨⟨?_, ?_⟩, hw⟩
  · simp only [MP.D.pure, nms_pure]
  · simp only [MP.D.depth]
    omega
end K96
set_option autoImplicit false
set_option linter.all false
set_option maxRecDepth 10000
namespace K96
open MP
def bgBody : List St := [.set 4 (.bin .mod (.bi .int [(.bin .add (.bin .mul (.v 4) (.k (.int 48271))) (.v 5))]) (.k (.int 2147483647)))]
def bg1 : St := .set 2 (.bin .add (.sl (.v 0) [(.v 1)] []) (.sl (.v 0) [] [(.v 1)]))
def bg2 : St := .set 3 (.comp false [5] (.v 5) (.seq (.v 0)) [(.cmp .ge (.v 5) (.bin .pow (.k (.int 10)) (.k (.int 18))))] (.v 5))
def bg3 : St := .set 4 (.bin .add (.k (.int 97)) (.bin .mul (.k (.int 10)) (.v 1)))
def bg4 : St := .for (.v 5) (.seq (.v 2)) bgBody
def bg5 : St := .ret (.dct true false [(.k (.str s_left)), (.k (.str s_seed)), (.k (.str s_cells)), (.k (.str s_spot)), (.k (.str s_next))] [(.ite (.cmp .lt (.v 1) (.bi .len [(.v 3)])) (.ix (.v 3) (.v 1)) (.k (.int 0))), (.v 4), (.bin .add (.v 2) (.lst false [(.bin .add (.bin .mul (.k (.int 67)) (.v 1)) (.k (.int 47)))])), (.k (.int 0)), (.k (.int 0))])
theorem begun_code : c__law_begun = [bg1, bg2, bg3, bg4, bg5] := rfl
def intL (l : List Int) : D := .lst (l.map D.int)
theorem bg_loop {cf : CF} {e0 e1 e2 e3 : Option D} {M : Mem} : ∀ (l : List Int) (seed : Int) (e5 : Option D), 0 ≤ seed → seed < 2147483647 → ∃ seed' x5, forL (.v 5) (fun r m => evSs cf bgBody r m) (l.map D.int) [e0, e1, e2, e3, some (.int seed), e5] M = .nx [e0, e1, e2, e3, some (.int seed'), x5] M ∧ 0 ≤ seed' ∧ seed' < 2147483647
  | [], seed, e5, h0, h1 => ⟨seed, e5, rfl, h0, h1⟩
  | i :: l, seed, e5, h0, h1 => by
    obtain ⟨s2, x5, e, g0, g1⟩ := bg_loop (cf := cf) (e0 := e0) (e1 := e1) (e2 := e2) (e3 := e3) (M := M) l ((seed * 48271 + i) % 2147483647) (some (.int i)) (Int.emod_nonneg _ (by omega)) (Int.emod_lt_of_pos _ (by omega))
    refine ⟨s2, x5, ?_, g0, g1⟩
    have hm : binD .mul (.int seed) (.int 48271) M = .ok (.int (seed * 48271)) M := mul_r (by omega)
    have hd : binD .mod (.int (seed * 48271 + i)) (.int 2147483647) M = .ok (.int ((seed * 48271 + i) % 2147483647)) M := mod_ok (by omega)
    have hb : evSs cf bgBody [e0, e1, e2, e3, some (.int seed), some (.int i)] M = .nx [e0, e1, e2, e3, some (.int ((seed * 48271 + i) % 2147483647)), some (.int i)] M := by
      simp [bgBody, hm, hd]
    rw [List.map_cons, forL_cons (r1 := [e0, e1, e2, e3, some (.int seed), some (.int i)]) rfl, hb]
    exact e
theorem bg_great {cf : CF} {ns : List Int} {e1 e2 e3 e4 e5 : Option D} {M : Mem} (hl : ns.length < 1000) : ev cf (.comp false [5] (.v 5) (.seq (.v 0)) [(.cmp .ge (.v 5) (.bin .pow (.k (.int 10)) (.k (.int 18))))] (.v 5)) [some (intL ns), e1, e2, e3, e4, e5] M = .ok (intL (ns.filter fun i => decide (1000000000000000000 ≤ i))) M := by
  have hi : evIt cf (.seq (.v 0)) [some (intL ns), e1, e2, e3, e4, e5] M = .ok (.vals (ns.map D.int)) M := rfl
  rw [ev_comp, hi]
  simp only
  rw [compL_filter (P := fun d => match d with | .int i => decide (1000000000000000000 ≤ i) | _ => false) _ _ (fun z hz => ?_) (by rw [List.length_map, List.length_nil]; exact Nat.le_trans (show 0 + ns.length ≤ 1000 by omega) (by decide))]
  · have : ((ns.map D.int).filter fun d => match d with | .int i => decide (1000000000000000000 ≤ i) | _ => false) = (ns.filter fun i => decide (1000000000000000000 ≤ i)).map D.int := by
      rw [List.filter_map]
      rfl
    rw [this]
    rfl
  · obtain ⟨i, _, rfl⟩ := List.mem_map.mp hz
    refine ⟨[some (intL ns), e1, e2, e3, e4, some (.int i)], rfl, ?_, rfl⟩
    have hp : binD .pow (.int 10) (.int 18) M = .ok (.int 1000000000000000000) M := rfl
    show (match testOf (ev cf (.cmp .ge (.v 5) (.bin .pow (.k (.int 10)) (.k (.int 18)))) [some (intL ns), e1, e2, e3, e4, some (.int i)] M) with
        | .ok true m1 => evTests cf [] _ m1
        | .ok false m1 => .ok false m1
        | .stop => R.stop) = _
    by_cases h : (1000000000000000000 : Int) ≤ i
    · simp [hp, h]
      rfl
    · simp [hp, h]
theorem e_begun {n k : Nat} {ns : List Int} {M : Mem} (hl : ns.length ≤ 63) (hk : k ≤ 100) : ∃ x, callN fns (n + 1) 17 [intL ns, .int (k : Int)] M = .ok (.obj M.length) (M ++ [x]) ∧ Mc (M ++ [x]) M.length 0 := by
  have h1 : evS (callN fns n) bg1 [some (intL ns), some (.int (k : Int)), none, none, none, none] M = .nx [some (intL ns), some (.int (k : Int)), some (intL (ns.drop k ++ ns.take k)), none, none, none] M := by
    have hd := sl_drop (l := ns.map D.int) (k := k) (m := M)
    have ht := sl_take (l := ns.map D.int) (k := k) (m := M)
    have ha := add_lst (a := (ns.map D.int).drop k) (b := (ns.map D.int).take k) (m := M) (by simp; omega)
    have he : intL (ns.drop k ++ ns.take k) = .lst ((ns.map D.int).drop k ++ (ns.map D.int).take k) := by
      unfold intL
      rw [List.map_append, List.map_drop, List.map_take]
    rw [he]
    simp [bg1, intL, boundOf, hd, ht, ha]
  have h2 : evS (callN fns n) bg2 [some (intL ns), some (.int (k : Int)), some (intL (ns.drop k ++ ns.take k)), none, none, none] M = .nx [some (intL ns), some (.int (k : Int)), some (intL (ns.drop k ++ ns.take k)), some (intL (ns.filter fun i => decide (1000000000000000000 ≤ i))), none, none] M := by
    unfold bg2
    rw [evS_set, bg_great (by omega)]
    rfl
  have h3 : evS (callN fns n) bg3 [some (intL ns), some (.int (k : Int)), some (intL (ns.drop k ++ ns.take k)), some (intL (ns.filter fun i => decide (1000000000000000000 ≤ i))), none, none] M = .nx [some (intL ns), some (.int (k : Int)), some (intL (ns.drop k ++ ns.take k)), some (intL (ns.filter fun i => decide (1000000000000000000 ≤ i))), some (.int (97 + 10 * (k : Int))), none] M := by
    have hm : binD .mul (.int 10) (.int (k : Int)) M = .ok (.int (10 * (k : Int))) M := mul_l (by omega)
    simp [bg3, hm]
  obtain ⟨seed, x5, e4, s0, s1⟩ := bg_loop (cf := callN fns n) (e0 := some (intL ns)) (e1 := some (.int (k : Int))) (e2 := some (intL (ns.drop k ++ ns.take k))) (e3 := some (intL (ns.filter fun i => decide (1000000000000000000 ≤ i)))) (M := M) (ns.drop k ++ ns.take k) (97 + 10 * (k : Int)) none (by omega) (by omega)
  have h4 : evS (callN fns n) bg4 [some (intL ns), some (.int (k : Int)), some (intL (ns.drop k ++ ns.take k)), some (intL (ns.filter fun i => decide (1000000000000000000 ≤ i))), some (.int (97 + 10 * (k : Int))), none] M = .nx [some (intL ns), some (.int (k : Int)), some (intL (ns.drop k ++ ns.take k)), some (intL (ns.filter fun i => decide (1000000000000000000 ≤ i))), some (.int seed), x5] M := by
    unfold bg4
    rw [evS_for]
    exact e4
  have hleft : ∃ left, ev (callN fns n) (.ite (.cmp .lt (.v 1) (.bi .len [(.v 3)])) (.ix (.v 3) (.v 1)) (.k (.int 0))) [some (intL ns), some (.int (k : Int)), some (intL (ns.drop k ++ ns.take k)), some (intL (ns.filter fun i => decide (1000000000000000000 ≤ i))), some (.int seed), x5] M = .ok (.int left) M := by
    generalize (ns.filter fun i => decide (1000000000000000000 ≤ i)) = g
    by_cases h : k < g.length
    · refine ⟨g[k], ?_⟩
      have h' : (k : Int) < (g.length : Int) := by omega
      simp [intL, h', idx_nat, List.getElem?_eq_getElem h]
    · refine ⟨0, ?_⟩
      have h' : ¬ ((k : Int) < (g.length : Int)) := by omega
      simp [intL, h']
  obtain ⟨left, hleft⟩ := hleft
  have hm : binD .mul (.int 67) (.int (k : Int)) M = .ok (.int (67 * (k : Int))) M := mul_l (by omega)
  have hcells : ∀ e5, ev (callN fns n) (.bin .add (.v 2) (.lst false [(.bin .add (.bin .mul (.k (.int 67)) (.v 1)) (.k (.int 47)))])) [some (intL ns), some (.int (k : Int)), some (intL (ns.drop k ++ ns.take k)), some (intL (ns.filter fun i => decide (1000000000000000000 ≤ i))), some (.int seed), e5] M = .ok (intL (ns.drop k ++ ns.take k ++ [67 * (k : Int) + 47])) M := fun e5 => by
    have ha := add_lst (a := (ns.drop k ++ ns.take k).map D.int) (b := [.int (67 * (k : Int) + 47)]) (m := M) (by simp; omega)
    have he : intL (ns.drop k ++ ns.take k ++ [67 * (k : Int) + 47]) = .lst ((ns.drop k ++ ns.take k).map D.int ++ [.int (67 * (k : Int) + 47)]) := by
      unfold intL
      rw [List.map_append]
      rfl
    rw [he]
    have hv : ev (callN fns n) (.v 2) [some (intL ns), some (.int (k : Int)), some (intL (ns.drop k ++ ns.take k)), some (intL (ns.filter fun i => decide (1000000000000000000 ≤ i))), some (.int seed), e5] M = .ok (.lst ((ns.drop k ++ ns.take k).map D.int)) M := rfl
    rw [ev_bin, hv]
    simp only [ev_lst, evs_cons, evs_nil, ev_bin, ev_k, ev_v, List.getElem?_cons_zero, List.getElem?_cons_succ, hm, add_int]
    rw [show okLen [D.int (67 * (k : Int) + 47)] = true from rfl]
    simp only [if_true, ha]
  refine ⟨mch left seed 0 0 (ns.drop k ++ ns.take k ++ [67 * (k : Int) + 47]), ?_, ⟨left, seed, 0, 0, ns.drop k ++ ns.take k ++ [67 * (k : Int) + 47], by simp, s0, s1, by omega, by omega, by omega, by omega, by simp⟩⟩
  rw [call__law_begun, run_fn rfl]
  show (match evSs (callN fns n) [bg1, bg2, bg3, bg4, bg5] [some (intL ns), some (.int (k : Int)), none, none, none, none] M with
      | .nx _ m1 => R.ok D.non m1
      | .rt d m1 => R.ok d m1
      | _ => R.stop) = _
  simp only [evSs_cons, h1, h2, h3, h4]
  simp only [bg5, evS_ret, ev_dctM, evs_cons, evs_nil, ev_k, hleft, hcells, ev_v, List.getElem?_cons_zero, List.getElem?_cons_succ]
  rfl
end K96
set_option autoImplicit false
set_option linter.all false
set_option maxRecDepth 10000
namespace K96
open MP
def rb1 : St := .par [3, 7] [(.dct true false [] []), (.tup [(.k (.str s_pattern)), (.tup [])])]
def rb2 : St := .ite (.call 21 [(.v 2)]) [
      .set 8 (.call 26 [(.v 2), (.k (.int 1)), (.tup []), (.tup [(.k (.str s_lit))]), (.v 3), (.k (.int 0))]),
      .set 7 (.ite (.isN (.v 8)) (.k .non) (.tup [(.k (.str s_pattern)), (.v 8)]))] []
def rNames : Ex := .bi .tuple [(.comp false [10] (.v 10) (.seq (.bi .listV [(.v 3)])) [] (.tup [(.v 10), (.ix (.v 3) (.v 10))]))]
def rb3 : St := .ite (.isN (.v 7)) [
      .ite (.reprEq true (.call 16 [(.tup [(.k (.str s_lit))]), (.v 2)]) rNames) [
        .ret (.k (.bl false))] [],
      .set 8 (.call 27 [(.v 4), (.tup []), (.v 3), (.k (.int 0)), (.k (.bl false))]),
      .set 7 (.ite (.isN (.v 8)) (.k .non) (.tup [(.k (.str s_template)), (.v 8)]))] []
def rb4 : St := .ite (.reprEq true (.call 14 [(.tup [(.k (.str s_lit))]), (.v 2), (.v 4)]) (.v 7)) [
      .ret (.k (.bl false))] []
def rb5 : St := .ite (.cmp .eq (.call 18 [(.v 0), (.k (.int 2))]) (.k (.int 0))) [
      .set 2 (.call 30 [(.v 0), (.v 2), (.v 5)])] [
      .set 4 (.call 30 [(.v 0), (.v 4), (.v 5)])]
def rBody : List St := [rb1, rb2, rb3, rb4, rb5]
def rE (m : Nat) (e1 : Option D) (x : Dt) (e3 : Option D) (y : Dt) (e6 e7 e8 e9 e10 : Option D) : Env := [some (.obj m), e1, some (emb x), e3, some (emb y), some (.lst (embs someL)), e6, e7, e8, e9, e10]
theorem rb1_ok {cf : CF} {m : Nat} {e1 : Option D} {x : Dt} {e3 : Option D} {y : Dt} {e6 e7 e8 e9 e10 : Option D} {M : Mem} : evS cf rb1 (rE m e1 x e3 y e6 e7 e8 e9 e10) M = .nx (rE m e1 x (some (.obj M.length)) y e6 (some (.tup [.str s_pattern, .tup []])) e8 e9 e10) (M ++ [.dct false [] false]) := by
  simp [rb1, rE]
theorem isN_opt {cf : CF} {r : Env} {M : Mem} {e : Ex} {q : Option (List Nat)} {kind : List Nat} (h : ev cf e r M = .ok (optD q) M) : ev cf (.ite (.isN e) (.k .non) (.tup [(.k (.str kind)), e])) r M = .ok (flt kind q) M := by
  cases q with
  | none =>
    have h : ev cf e r M = .ok .non M := h
    simp [h, flt]
  | some q =>
    have h : ev cf e r M = .ok (.tup (q.map fun (k : Nat) => .int (k : Int))) M := h
    simp [h, flt, pth]
theorem rb2_lst {cf : CF} {m o : Nat} {e1 : Option D} {x y : Dt} {e6 e8 e9 e10 : Option D} {q : Option (List Nat)} {M1 M2 : Mem} (h21 : cf 21 [emb x] M1 = .ok (.bl true) M1) (h26 : cf 26 [emb x, .int 1, .tup [], lit1, .obj o, .int 0] M1 = .ok (optD q) M2) :
    ∃ f8, evS cf rb2 (rE m e1 x (some (.obj o)) y e6 (some (.tup [.str s_pattern, .tup []])) e8 e9 e10) M1 = .nx (rE m e1 x (some (.obj o)) y e6 (some (flt s_pattern q)) f8 e9 e10) M2 := by
  have h8 : evS cf (.set 8 (.call 26 [(.v 2), (.k (.int 1)), (.tup []), (.tup [(.k (.str s_lit))]), (.v 3), (.k (.int 0))])) (rE m e1 x (some (.obj o)) y e6 (some (.tup [.str s_pattern, .tup []])) e8 e9 e10) M1 = .nx (rE m e1 x (some (.obj o)) y e6 (some (.tup [.str s_pattern, .tup []])) (some (optD q)) e9 e10) M2 := by
    have hl : lit1 = .tup [.str s_lit] := rfl
    rw [hl] at h26
    simp only [rE, evS_set, ev_call, evs_cons, evs_nil, ev_v, ev_k, ev_tup, List.getElem?_cons_zero, List.getElem?_cons_succ]
    rw [show okLen ([] : List D) = true from rfl, show okLen [D.str s_lit] = true from rfl]
    simp only [if_true, h26]
    rfl
  have h7 := isN_opt (kind := s_pattern) (cf := cf) (r := rE m e1 x (some (.obj o)) y e6 (some (.tup [.str s_pattern, .tup []])) (some (optD q)) e9 e10) (M := M2) (e := .v 8) (q := q) rfl
  have ht : ev cf (.call 21 [(.v 2)]) (rE m e1 x (some (.obj o)) y e6 (some (.tup [.str s_pattern, .tup []])) e8 e9 e10) M1 = .ok (.bl true) M1 := by
    simp [rE, h21]
  refine ⟨some (optD q), ?_⟩
  unfold rb2
  rw [evS_ite, ht]
  simp only [test_ok', truth_b, evSs_cons, evSs_nil, h8]
  rw [evS_set, h7]
  rfl
theorem rb2_oth {cf : CF} {m o : Nat} {e1 : Option D} {x y : Dt} {e6 e7 e8 e9 e10 : Option D} {M1 : Mem} (h21 : cf 21 [emb x] M1 = .ok (.bl false) M1) :
    evS cf rb2 (rE m e1 x (some (.obj o)) y e6 e7 e8 e9 e10) M1 = .nx (rE m e1 x (some (.obj o)) y e6 e7 e8 e9 e10) M1 := by
  simp [rb2, rE, h21]
theorem rb2_ok {n m : Nat} {e1 : Option D} {x y : Dt} {e6 e8 e9 e10 : Option D} {M : Mem} (hx : gd 1000 x = true) (hn : 80 ≤ n) (dx : dp x ≤ 30) (wx : wn x ≤ 30000) :
    ∃ f8, evS (callN fns n) rb2 (rE m e1 x (some (.obj M.length)) y e6 (some (.tup [.str s_pattern, .tup []])) e8 e9 e10) (M ++ [.dct false [] false]) = .nx (rE m e1 x (some (.obj M.length)) y e6 (some (flt s_pattern (wF [] x).1)) f8 e9 e10) (M ++ [.dct false (nms (wF [] x).2) false]) := by
  obtain ⟨n2, rfl⟩ : ∃ n2, n = n2 + 3 := ⟨n - 3, by omega⟩
  have il := e_law_is_list (n2 + 2) x (M ++ [.dct false [] false])
  cases x with
  | lst l t =>
    have h := e_lwhole (n := n2) (o := M.length) (l := l) (t := t) (nm := []) (M := M ++ [.dct false [] false]) (gd_wf _ _ hx) (gd_sm (Nat.le_refl _) _ hx) (by omega) (by omega) (at_new M) (by simp; omega)
    rw [out_new] at h
    exact rb2_lst il h
  | wrd s => exact ⟨e8, rb2_oth il⟩
  | num i => exact ⟨e8, rb2_oth il⟩
  | tru => exact ⟨e8, rb2_oth il⟩
  | nil => exact ⟨e8, rb2_oth il⟩
/-- the law's list of names and depths -/
theorem dOf_own {nm : NM} (h : (nm.map (·.1)).Nodup) : ∀ q ∈ nm, dOf nm q.1 = some q.2 := by
  induction nm with
  | nil => intro q hq; cases hq
  | cons a r ih =>
    intro q hq
    simp only [List.map_cons, List.nodup_cons] at h
    rcases List.mem_cons.mp hq with rfl | hq
    · simp [dOf]
    · have hne : (a.1 == q.1) = false := by
        rw [beq_eq_false_iff_ne]
        intro e
        exact h.1 (by rw [e]; exact List.mem_map.mpr ⟨q, hq, rfl⟩)
      have := ih h.2 q hq
      simpa [dOf, List.find?_cons, hne] using this
theorem ix_own {nm : NM} {o : Nat} {M : Mem} (ha : At M o nm) {q : List Nat × Nat} (h : dOf nm q.1 = some q.2) : ixD (.obj o) (.str q.1) M = .ok (.int (q.2 : Int)) M := by
  have hlk := look_nms nm q.1
  unfold ixD
  unfold At at ha
  simp only [ha]
  have h1 : isKey (.str q.1) = true := rfl
  have h2 : isTupKey (.str q.1) = false := rfl
  simp [h1, h2, hlk, h]
theorem names_ok {cf : CF} {m o : Nat} {e1 : Option D} {x y : Dt} {e6 e7 e8 e9 e10 : Option D} {M : Mem} {nm : NM} (ha : At M o nm) (hd : (nm.map (·.1)).Nodup) (hl : nm.length ≤ 30000) : ev cf rNames (rE m e1 x (some (.obj o)) y e6 e7 e8 e9 e10) M = .ok (.tup (pairsOf (nms nm))) M := by
  have hall := dOf_own hd
  have hs : ∀ l : NM, (∀ q ∈ l, q ∈ nm) → Steps (.v 10) (wipeE (rE m e1 x (some (.obj o)) y e6 e7 e8 e9 e10) [10]) (fun r M => ev cf (.tup [(.v 10), (.ix (.v 3) (.v 10))]) r M) M ((nms l).map (·.1)) (pairsOf (nms l)) := by
    intro l
    induction l with
    | nil => intro _; rfl
    | cons q r ih =>
      intro h
      have hix := ix_own ha (hall q (h q List.mem_cons_self))
      refine ⟨rE m e1 x (some (.obj o)) y e6 e7 e8 e9 (some (.str q.1)), .tup [.str q.1, .int (q.2 : Int)], pairsOf (nms r), rfl, rfl, ?_, ih fun z hz => h z (List.mem_cons_of_mem _ hz)⟩
      simp [rE, hix]
  have hi : evIt cf (.seq (.bi .listV [(.v 3)])) (rE m e1 x (some (.obj o)) y e6 e7 e8 e9 e10) M = .ok (.vals ((nms nm).map (·.1))) M := by
    have hb : biD .listV [.obj o] M = .ok (.lst ((nms nm).map (·.1))) M := by
      unfold biD
      unfold At at ha
      simp only [ha]
    rw [evIt_seq]
    simp only [rE, ev_bi, evs_cons, evs_nil, ev_v, List.getElem?_cons_zero, List.getElem?_cons_succ, hb]
    rfl
  have hc := comp_vals (own := [10]) hi (hs nm fun q hq => hq) (by simp [nms]; exact Nat.le_trans hl (by decide))
  unfold rNames
  simp only [ev_bi, evs_cons, evs_nil, hc, tuple_lst]
theorem rfD_flt (x y : Dt) : rfD x y = match (wF [] x).1 with
  | some q => flt s_pattern (some q)
  | none => flt s_template (tF (wF [] x).2 y [] 0 false) := by
  unfold rfD
  cases (wF [] x).1 with
  | some q => rfl
  | none => cases tF (wF [] x).2 y [] 0 false <;> rfl
theorem rf_show {x y : Dt} (hx : gd 1000 x = true) (hy : gd 1000 y = true) (dx : dp x ≤ 30) (dy : dp y ≤ 30) : D.same (rfD x y) (rfD x y) = true ∧ showOk (rfD x y) = true := by
  have h1 := wF_ok (Nat.le_refl 1000) hx
  rw [rfD_flt]
  cases e : (wF [] x).1 with
  | some q => exact flt_show (by decide) fun q' hq => by cases hq; exact (h1.2.2 q e).le (by omega)
  | none => exact flt_show (by decide) fun q hq => (tF_ok (Nat.le_refl 1000) _ y [] 0 false 0 q hy (pok_nil 0) hq).le (by omega)
theorem rb3_non {cf : CF} {m o : Nat} {e1 : Option D} {x y : Dt} {e6 e8 e9 e10 : Option D} {q : Option (List Nat)} {nm : NM} {M M1 M2 : Mem} {T : D} (h16 : cf 16 [lit1, emb x] M = .ok T M1) (hs : D.same T T = true ∧ showOk T = true) (hT : T = .tup (pairsOf (nms nm))) (ha : At M1 o nm) (hd : (nm.map (·.1)).Nodup) (hl : nm.length ≤ 30000)
    (h27 : cf 27 [emb y, .tup [], .obj o, .int 0, .bl false] M1 = .ok (optD q) M2) :
    ∃ f8, evS cf rb3 (rE m e1 x (some (.obj o)) y e6 (some .non) e8 e9 e10) M = .nx (rE m e1 x (some (.obj o)) y e6 (some (flt s_template q)) f8 e9 e10) M2 := by
  have hn := names_ok (cf := cf) (m := m) (e1 := e1) (x := x) (y := y) (e6 := e6) (e7 := some .non) (e8 := e8) (e9 := e9) (e10 := e10) ha hd hl
  have hrepr : ev cf (.reprEq true (.call 16 [(.tup [(.k (.str s_lit))]), (.v 2)]) rNames) (rE m e1 x (some (.obj o)) y e6 (some .non) e8 e9 e10) M = .ok (.bl false) M1 := by
    have hc : ev cf (.call 16 [(.tup [(.k (.str s_lit))]), (.v 2)]) (rE m e1 x (some (.obj o)) y e6 (some .non) e8 e9 e10) M = .ok T M1 := by
      have hl : lit1 = .tup [.str s_lit] := rfl
      rw [hl] at h16
      simp only [rE, ev_call, evs_cons, evs_nil, ev_v, ev_k, ev_tup, List.getElem?_cons_zero, List.getElem?_cons_succ]
      rw [show okLen [D.str s_lit] = true from rfl]
      simp only [if_true, h16]
    rw [ev_reprEq, hc]
    simp only [hn]
    rw [← hT, repr_eq hs]
    rfl
  have h8 : evS cf (.set 8 (.call 27 [(.v 4), (.tup []), (.v 3), (.k (.int 0)), (.k (.bl false))])) (rE m e1 x (some (.obj o)) y e6 (some .non) e8 e9 e10) M1 = .nx (rE m e1 x (some (.obj o)) y e6 (some .non) (some (optD q)) e9 e10) M2 := by
    simp only [rE, evS_set, ev_call, evs_cons, evs_nil, ev_v, ev_k, ev_tup, List.getElem?_cons_zero, List.getElem?_cons_succ]
    rw [show okLen ([] : List D) = true from rfl]
    simp only [if_true, h27]
    rfl
  have h7 := isN_opt (kind := s_template) (cf := cf) (r := rE m e1 x (some (.obj o)) y e6 (some .non) (some (optD q)) e9 e10) (M := M2) (e := .v 8) (q := q) rfl
  have ht : ev cf (.isN (.v 7)) (rE m e1 x (some (.obj o)) y e6 (some .non) e8 e9 e10) M = .ok (.bl true) M := rfl
  refine ⟨some (optD q), ?_⟩
  unfold rb3
  rw [evS_ite, ht]
  simp only [test_ok', truth_b, evSs_cons, evSs_nil, evS_ite, hrepr, h8]
  rw [evS_set, h7]
  rfl
theorem rb3_skip {cf : CF} {m o : Nat} {e1 : Option D} {x y : Dt} {e6 e8 e9 e10 : Option D} {q : List Nat} {M : Mem} : evS cf rb3 (rE m e1 x (some (.obj o)) y e6 (some (flt s_pattern (some q))) e8 e9 e10) M = .nx (rE m e1 x (some (.obj o)) y e6 (some (flt s_pattern (some q))) e8 e9 e10) M := by
  simp [rb3, rE, flt]
theorem rb3_ok {n m : Nat} {e1 : Option D} {x y : Dt} {e6 e8 e9 e10 : Option D} {M : Mem} (hx : gd 1000 x = true) (hy : gd 1000 y = true) (hn : 82 ≤ n) (dx : dp x ≤ 30) (dy : dp y ≤ 30) (wx : wn x ≤ 30000) (wy : wn y ≤ 30000) :
    ∃ f8 J, evS (callN fns n) rb3 (rE m e1 x (some (.obj M.length)) y e6 (some (flt s_pattern (wF [] x).1)) e8 e9 e10) (M ++ [.dct false (nms (wF [] x).2) false]) = .nx (rE m e1 x (some (.obj M.length)) y e6 (some (rfD x y)) f8 e9 e10) (M ++ J) := by
  have hok := wF_ok (Nat.le_refl 1000) hx
  rw [rfD_flt]
  cases e : (wF [] x).1 with
  | some q => exact ⟨e8, [.dct false (nms (wF [] x).2) false], rb3_skip⟩
  | none =>
    obtain ⟨n2, rfl⟩ : ∃ n2, n = n2 + 1 := ⟨n - 1, by omega⟩
    have h16 := e_pattern_names (n := n2) (x := x) (M := M ++ [.dct false (nms (wF [] x).2) false]) hx (by omega) dx wx
    have ha : At (M ++ [.dct false (nms (wF [] x).2) false] ++ [.dct false (nms (wF [] x).2) false]) M.length (wF [] x).2 := at_app (at_new2 M _) _
    have h27 := e_ltF ha y n2 [] 0 false (by omega) wy dy (by simp; omega) hy
    obtain ⟨f8, h⟩ := rb3_non (m := m) (e1 := e1) (x := x) (y := y) (e6 := e6) (e8 := e8) (e9 := e9) (e10 := e10) h16 (nms_show hok.1 (by omega) (by omega)) rfl ha hok.1.nd (by omega) h27
    exact ⟨f8, [.dct false (nms (wF [] x).2) false] ++ [.dct false (nms (wF [] x).2) false], by rw [← List.append_assoc]; exact h⟩
theorem rb4_core {cf : CF} {m o : Nat} {e1 : Option D} {x y : Dt} {e6 e8 e9 e10 : Option D} {T : D} {M M1 : Mem} (h14 : cf 14 [lit1, emb x, emb y] M = .ok T M1) (hs : D.same T T = true ∧ showOk T = true) :
    evS cf rb4 (rE m e1 x (some (.obj o)) y e6 (some T) e8 e9 e10) M = .nx (rE m e1 x (some (.obj o)) y e6 (some T) e8 e9 e10) M1 := by
  have hc : ev cf (.call 14 [(.tup [(.k (.str s_lit))]), (.v 2), (.v 4)]) (rE m e1 x (some (.obj o)) y e6 (some T) e8 e9 e10) M = .ok T M1 := by
    have hl : lit1 = .tup [.str s_lit] := rfl
    rw [hl] at h14
    simp only [rE, ev_call, evs_cons, evs_nil, ev_v, ev_k, ev_tup, List.getElem?_cons_zero, List.getElem?_cons_succ]
    rw [show okLen [D.str s_lit] = true from rfl]
    simp only [if_true, h14]
  have hv : ev cf (.v 7) (rE m e1 x (some (.obj o)) y e6 (some T) e8 e9 e10) M1 = .ok T M1 := rfl
  unfold rb4
  rw [evS_ite, ev_reprEq, hc]
  simp only [hv]
  rw [repr_eq hs]
  rfl
theorem rb5_x {cf : CF} {m o : Nat} {e1 : Option D} {x y z : Dt} {e6 e7 e8 e9 e10 : Option D} {M M1 M2 : Mem} (h18 : cf 18 [.obj m, .int 2] M = .ok (.int 0) M1) (h30 : cf 30 [.obj m, emb x, .lst (embs someL)] M1 = .ok (emb z) M2) :
    evS cf rb5 (rE m e1 x (some (.obj o)) y e6 e7 e8 e9 e10) M = .nx (rE m e1 z (some (.obj o)) y e6 e7 e8 e9 e10) M2 := by
  simp [rb5, rE, h18, h30]
theorem rb5_y {cf : CF} {m o : Nat} {e1 : Option D} {x y z : Dt} {e6 e7 e8 e9 e10 : Option D} {M M1 M2 : Mem} {w : Int} (h18 : cf 18 [.obj m, .int 2] M = .ok (.int w) M1) (hw : (w == 0) = false) (h30 : cf 30 [.obj m, emb y, .lst (embs someL)] M1 = .ok (emb z) M2) :
    evS cf rb5 (rE m e1 x (some (.obj o)) y e6 e7 e8 e9 e10) M = .nx (rE m e1 x (some (.obj o)) z e6 e7 e8 e9 e10) M2 := by
  simp [rb5, rE, h18, hw, h30]
/-- one turn -/
theorem r_turn {n m c W : Nat} {e1 e3 : Option D} {x y : Dt} {e6 e7 e8 e9 e10 : Option D} {M : Mem} {B : Int} (hM : Mc M m B) (hB : B < 500000000) (hn : 90 ≤ n) (hc : 7 ≤ c) (hc2 : c < 100) (hx : gd c x = true) (hy : gd c y = true) (dx : dp x ≤ 12) (dy : dp y ≤ 12) (wx : wn x ≤ W) (wy : wn y ≤ W) (hW : W ≤ 15000) :
    ∃ f3 x' y' f7 f8 M', evSs (callN fns n) rBody (rE m e1 x e3 y e6 e7 e8 e9 e10) M = .nx (rE m e1 x' f3 y' e6 f7 f8 e9 e10) M' ∧ gd (c + 1) x' = true ∧ gd (c + 1) y' = true ∧ dp x' ≤ 12 ∧ dp y' ≤ 12 ∧ wn x' ≤ 2 * W ∧ wn y' ≤ 2 * W ∧ Mc M' m (B + 100) := by
  have hx2 := gd_mono (show c ≤ 1000 by omega) x hx
  have hy2 := gd_mono (show c ≤ 1000 by omega) y hy
  have h1 := rb1_ok (cf := callN fns n) (m := m) (e1 := e1) (x := x) (e3 := e3) (y := y) (e6 := e6) (e7 := e7) (e8 := e8) (e9 := e9) (e10 := e10) (M := M)
  obtain ⟨f8, h2⟩ := rb2_ok (n := n) (m := m) (e1 := e1) (x := x) (y := y) (e6 := e6) (e8 := e8) (e9 := e9) (e10 := e10) (M := M) hx2 (by omega) (by omega) (by omega)
  obtain ⟨g8, J, h3⟩ := rb3_ok (n := n) (m := m) (e1 := e1) (x := x) (y := y) (e6 := e6) (e8 := f8) (e9 := e9) (e10 := e10) (M := M) hx2 hy2 (by omega) (by omega) (by omega) (by omega) (by omega)
  obtain ⟨n2, rfl⟩ : ∃ n2, n = n2 + 1 := ⟨n - 1, by omega⟩
  obtain ⟨J2, h14⟩ := e_rule_fault (n := n2) (x := x) (y := y) (M := M ++ J) hx2 hy2 (by omega) (by omega) (by omega) (by omega) (by omega)
  have h4 := rb4_core (m := m) (o := M.length) (e1 := e1) (e6 := e6) (e8 := g8) (e9 := e9) (e10 := e10) h14 (rf_show hx2 hy2 (by omega) (by omega))
  have hM4 : Mc (M ++ J ++ J2) m B := hM.app.app
  obtain ⟨w, M5, h18, w0, w1, hM5, _⟩ := e_draw (n := n2) (b := 2) hM4 (by omega) (by omega) (by omega)
  by_cases hw : w = 0
  · subst hw
    obtain ⟨z, M6, h30, hz, hM6, _⟩ := e_bent hc (by omega) x (n2 + 1) M5 (B + 1) (by omega) hx hM5 (by omega)
    have h5 := rb5_x (o := M.length) (e1 := e1) (y := y) (e6 := e6) (e7 := some (rfD x y)) (e8 := g8) (e9 := e9) (e10 := e10) h18 h30
    refine ⟨some (.obj M.length), z, y, some (rfD x y), g8, M6, ?_, hz.g, gd_mono (by omega) y hy, Nat.le_trans hz.d dx, dy, by have := hz.w; omega, by omega, hM6.le (by omega)⟩
    simp only [rBody, evSs_cons, evSs_nil, h1, h2, h3, h4, h5]
  · have hw' : (w == 0) = false := by simpa using hw
    obtain ⟨z, M6, h30, hz, hM6, _⟩ := e_bent hc (by omega) y (n2 + 1) M5 (B + 1) (by omega) hy hM5 (by omega)
    have h5 := rb5_y (o := M.length) (e1 := e1) (x := x) (e6 := e6) (e7 := some (rfD x y)) (e8 := g8) (e9 := e9) (e10 := e10) h18 hw' h30
    refine ⟨some (.obj M.length), x, z, some (rfD x y), g8, M6, ?_, gd_mono (by omega) x hx, hz.g, dx, Nat.le_trans hz.d dy, by omega, by have := hz.w; omega, hM6.le (by omega)⟩
    simp only [rBody, evSs_cons, evSs_nil, h1, h2, h3, h4, h5]
end K96
set_option autoImplicit false
set_option linter.all false
set_option maxRecDepth 10000
namespace K96
open MP
theorem r_loop {n m : Nat} (hn : 90 ≤ n) : ∀ (l : List Int) (c W : Nat) (e1 e3 : Option D) (x y : Dt) (e6 e7 e8 e9 e10 : Option D) (M : Mem) (B : Int), Mc M m B → B + 100 * (l.length : Nat) < 400000000 → 7 ≤ c → c + l.length < 100 → gd c x = true → gd c y = true → dp x ≤ 12 → dp y ≤ 12 → wn x ≤ W → wn y ≤ W → W * 2 ^ l.length ≤ 30000 →
    ∃ r M', forL (.v 6) (fun r m => evSs (callN fns n) rBody r m) (l.map D.int) (rE m e1 x e3 y e6 e7 e8 e9 e10) M = .nx r M' ∧ Mc M' m (B + 100 * (l.length : Nat))
  | [], c, W, e1, e3, x, y, e6, e7, e8, e9, e10, M, B, hM, hB, hc, hc2, hx, hy, dx, dy, wx, wy, hW => ⟨_, M, rfl, hM.le (by simp)⟩
  | i :: l, c, W, e1, e3, x, y, e6, e7, e8, e9, e10, M, B, hM, hB, hc, hc2, hx, hy, dx, dy, wx, wy, hW => by
    simp only [List.length_cons] at hB hc2 hW
    have h2 : W * 2 ^ (l.length + 1) = 2 * W * 2 ^ l.length := by rw [Nat.pow_succ]; rw [Nat.mul_comm 2 W, Nat.mul_assoc, Nat.mul_comm 2 (2 ^ l.length)]
    have h3 : 2 * W ≤ 2 * W * 2 ^ l.length := Nat.le_mul_of_pos_right _ (Nat.pow_pos (by omega))
    rw [h2] at hW
    obtain ⟨f3, x', y', f7, f8, M1, e, gx, gy, ex, ey, vx, vy, hM1⟩ := r_turn (n := n) (e1 := e1) (e3 := e3) (e6 := some (.int i)) (e7 := e7) (e8 := e8) (e9 := e9) (e10 := e10) hM (by omega) hn hc (by omega) hx hy dx dy wx wy (by omega)
    obtain ⟨r, M2, e2, hM2⟩ := r_loop hn l (c + 1) (2 * W) e1 f3 x' y' (some (.int i)) f7 f8 e9 e10 M1 (B + 100) hM1 (by omega) (by omega) (by omega) gx gy ex ey vx vy hW
    refine ⟨r, M2, ?_, hM2.le (by simp only [List.length_cons]; omega)⟩
    rw [List.map_cons, forL_cons (r1 := rE m e1 x e3 y (some (.int i)) e7 e8 e9 e10) rfl, e]
    exact e2
def tr2 : St := .set 1 (.bin .add (.lst false [(.call 20 [(.k (.str s___1))])]) (.comp false [9] (.v 9) (.range1 (.call 18 [(.v 0), (.k (.int 4))])) [] (.call 28 [(.v 0), (.k (.int 3))])))
def tr3 : St := .par [2, 3] [(.tup [(.k (.str s_list)), (.bi .tuple [(.v 1)]), (.tup [])]), (.dct true false [] [])]
def tr4 : St := .ex (.call 26 [(.v 2), (.k (.int 1)), (.tup []), (.tup [(.k (.str s_lit))]), (.v 3), (.k (.int 0))])
def tr5 : St := .set 4 (.call 29 [(.v 0), (.v 3), (.k (.int 0)), (.k (.int 4))])
def tr6 : St := .set 5 (.lst false [(.call 20 [(.k (.str s__))]), (.call 20 [(.k (.str s___1))]), (.call 20 [(.k (.str s_p1))]), (.call 20 [(.k (.str s_p2))]), (.call 20 [(.k (.str s_p3))]), (.call 20 [(.k (.str s_lit))]), (.call 20 [(.k (.str s_other))]), (.k (.int 5)), (.tup [])])
def tr7 : St := .for (.v 6) (.range1 (.k (.int 4))) rBody
theorem turn_code : c__law_turn_right = [.setix (.v 0) (.k (.str s_next)) (.k (.int 0)), tr2, tr3, tr4, tr5, tr6, tr7, .ret (.k (.bl true))] := rfl
def t0 (m : Nat) : Env := [some (.obj m), none, none, none, none, none, none, none, none, none, none]
theorem tr2_ok {n m : Nat} {M : Mem} {B : Int} (hM : Mc M m B) (hB : B < 100000000) (hn : 10 ≤ n) : ∃ xs M', evS (callN fns (n + 1)) tr2 (t0 m) M = .nx [some (.obj m), some (.lst (embs (.wrd s___1 :: xs))), none, none, none, none, none, none, none, none, none] M' ∧ xs.length ≤ 3 ∧ (∀ x ∈ xs, Gp 3 x) ∧ Mc M' m (B + 2000) ∧ Kp m M M' := by
  obtain ⟨w, M1, e, w0, w1, hm, hk⟩ := e_draw (n := n) (b := 4) hM (by omega) (by omega) (by omega)
  obtain ⟨k, rfl⟩ := Int.eq_ofNat_of_zero_le w0
  have hi : evIt (callN fns (n + 1)) (.range1 (.call 18 [(.v 0), (.k (.int 4))])) (t0 m) M = .ok (.vals (intRange 0 (k : Int))) M1 := by
    rw [evIt_range1]
    have := small_of (j := (k : Int)) (by omega) (by omega)
    simp [t0, e, this]
  have hstep : ∀ (i : Int) (M : Mem) (B : Int), Mc M m B → B + pd 3 < 800000000 → ∃ r1 x M', tgt (.v 9) (.int i) (wipeE (t0 m) [9]) = some r1 ∧ ev (callN fns (n + 1)) (.call 28 [(.v 0), (.k (.int 3))]) r1 M = .ok (emb x) M' ∧ Gp 3 x ∧ Mc M' m (B + pd 3) ∧ Kp m M M' := by
    intro i M B h hB
    obtain ⟨x, M', e, hx, hm, hk⟩ := e_pat 3 n M B (by omega) (by omega) h hB
    refine ⟨_, x, M', rfl, ?_, hx, hm, hk⟩
    have e : callN fns (n + 1) 28 [.obj m, .int 3] M = .ok (emb x) M' := e
    simp [t0, e]
  have hlen : ((List.range (k : Int).toNat).map fun (k : Nat) => (k : Int)).length = k := by simp
  have hpd : pd 3 = 145 := by decide
  obtain ⟨xs, M2, e2, hl, hQ, hm2, hk2⟩ := comp_draws (t := .v 9) (rw := wipeE (t0 m) [9]) (Q := Gp 3) (K := pd 3) hstep ((List.range (k : Int).toNat).map fun (k : Nat) => (k : Int)) [] M1 (B + 1) hm (by rw [hlen, hpd]; omega) (by rw [hlen]; simp; omega)
  rw [← range_ints, List.nil_append] at e2
  rw [hlen] at hl hm2
  rw [hpd] at hm2
  have hc : ev (callN fns (n + 1)) (.comp false [9] (.v 9) (.range1 (.call 18 [(.v 0), (.k (.int 4))])) [] (.call 28 [(.v 0), (.k (.int 3))])) (t0 m) M = .ok (.lst (embs xs)) M2 := by
    rw [ev_comp, hi]
    simp only
    rw [e2]
    rfl
  have ha : binD .add (.lst [.tup [.str s_name, .str s___1]]) (.lst (embs xs)) M2 = .ok (.lst (embs (.wrd s___1 :: xs))) M2 := add_lst (by rw [embs_len]; simp; omega)
  refine ⟨xs, M2, ?_, by omega, hQ, hm2.le (by omega), hk.trans hk2⟩
  unfold tr2
  rw [evS_set, ev_bin]
  simp only [ev_lst, evs_cons, evs_nil, ev_call, ev_k, e_w, hc]
  rw [show okLen [D.tup [D.str s_name, D.str s___1]] = true from rfl]
  simp only [if_true, hc, ha]
  rfl
theorem tr3_ok {cf : CF} {m : Nat} {l : List Dt} {M : Mem} : evS cf tr3 [some (.obj m), some (.lst (embs l)), none, none, none, none, none, none, none, none, none] M = .nx [some (.obj m), some (.lst (embs l)), some (emb (.lst l .nil)), some (.obj M.length), none, none, none, none, none, none, none] (M ++ [.dct false [] false]) := by
  simp [tr3, emb]
theorem tr4_ok {cf : CF} {m o : Nat} {e1 : Option D} {X d : D} {M M' : Mem} (h : cf 26 [X, .int 1, .tup [], lit1, .obj o, .int 0] M = .ok d M') : evS cf tr4 [some (.obj m), e1, some X, some (.obj o), none, none, none, none, none, none, none] M = .nx [some (.obj m), e1, some X, some (.obj o), none, none, none, none, none, none, none] M' := by
  have hl : lit1 = .tup [.str s_lit] := rfl
  rw [hl] at h
  simp [tr4, h]
theorem tr5_ok {cf : CF} {m o : Nat} {e1 : Option D} {X d : D} {M M' : Mem} (h : cf 29 [.obj m, .obj o, .int 0, .int 4] M = .ok d M') : evS cf tr5 [some (.obj m), e1, some X, some (.obj o), none, none, none, none, none, none, none] M = .nx [some (.obj m), e1, some X, some (.obj o), some d, none, none, none, none, none, none] M' := by
  simp [tr5, h]
theorem tr6_ok {n m : Nat} {e1 e2 e3 e4 : Option D} {M : Mem} : evS (callN fns (n + 1)) tr6 [some (.obj m), e1, e2, e3, e4, none, none, none, none, none, none] M = .nx [some (.obj m), e1, e2, e3, e4, some (.lst (embs someL)), none, none, none, none, none] M := by
  have h : ∀ s, (callN fns (n + 1)) 20 [.str s] M = .ok (.tup [.str s_name, .str s]) M := fun s => e_w
  revert h
  generalize callN fns (n + 1) = cf
  intro h
  simp [tr6, h, someL, embs, emb]
theorem turn_run {cf : CF} {m : Nat} {M M1 M2 M3 M4 M5 M6 : Mem} {r2 r3 r4 r5 r6 r7 : Env} (h1 : evS cf (.setix (.v 0) (.k (.str s_next)) (.k (.int 0))) (t0 m) M = .nx (t0 m) M1) (h2 : evS cf tr2 (t0 m) M1 = .nx r2 M2) (h3 : evS cf tr3 r2 M2 = .nx r3 M3) (h4 : evS cf tr4 r3 M3 = .nx r4 M4) (h5 : evS cf tr5 r4 M4 = .nx r5 M5) (h6 : evS cf tr6 r5 M5 = .nx r6 M5) (h7 : evS cf tr7 r6 M5 = .nx r7 M6) :
    runFn cf ⟨1, 11, c__law_turn_right⟩ [.obj m] M = .ok (.bl true) M6 := by
  rw [run_fn rfl]
  show (match evSs cf c__law_turn_right (t0 m) M with
      | .nx _ m1 => R.ok D.non m1
      | .rt d m1 => R.ok d m1
      | _ => R.stop) = _
  rw [turn_code]
  simp only [evSs_cons, h1, h2, h3, h4, h5, h6, h7]
  rfl
theorem e_turn {n m : Nat} {M : Mem} {B : Int} (hM : Mc M m B) (hB : B < 10000000) (hn : 91 ≤ n) : ∃ M', callN fns (n + 1) 31 [.obj m] M = .ok (.bl true) M' := by
  obtain ⟨n2, rfl⟩ : ∃ n2, n = n2 + 3 := ⟨n - 3, by omega⟩
  obtain ⟨left, seed, spot, next, cells, hg, s1, s2, p1, p2, q1, q2, hc⟩ := hM.ex
  have h1 : evS (callN fns (n2 + 3)) (.setix (.v 0) (.k (.str s_next)) (.k (.int 0))) (t0 m) M = .nx (t0 m) (M.set m (mch left seed spot 0 cells)) := by
    have := m_set_next hg 0
    revert this
    generalize callN fns (n2 + 3) = cf
    intro this
    simp [t0, this]
  have hM1 : Mc (M.set m (mch left seed spot 0 cells)) m B := ⟨_, _, _, _, _, m_at hg, s1, s2, p1, p2, by omega, by omega, hc⟩
  obtain ⟨xs, M2, h2, x3, hxs, hM2, hk2⟩ := tr2_ok (n := n2 + 2) hM1 (by omega) (by omega)
  have h3 := tr3_ok (cf := callN fns (n2 + 3)) (m := m) (l := .wrd s___1 :: xs) (M := M2)
  have hxg : ∀ x ∈ xs, gd 7 x = true := fun x hx => (hxs x hx).g
  have hxd : dps xs ≤ 3 := dps_le.mpr fun x hx => (hxs x hx).d
  have hpw : pw 3 = 66 := by decide
  have hxw : wns xs ≤ 3 * 66 := Nat.le_trans (wns_le (k := 66) fun x hx => by have := (hxs x hx).w; rw [hpw] at this; exact this) (Nat.mul_le_mul_right _ x3)
  have gx : gd 7 (.lst (.wrd s___1 :: xs) .nil) = true := by
    simp only [gd, gds, Bool.and_eq_true, decide_eq_true_eq]
    exact ⟨rfl, by simp; omega, ⟨by decide, gds_all.mpr hxg⟩, trivial⟩
  have dx : dp (.lst (.wrd s___1 :: xs) .nil) ≤ 4 := by
    simp only [dp, dps]
    omega
  have wx : wn (.lst (.wrd s___1 :: xs) .nil) ≤ 201 := by
    simp only [wn, wns]
    omega
  have gx2 := gd_mono (show 7 ≤ 1000 by omega) _ gx
  have h26 := e_lwhole (n := n2) (o := M2.length) (l := .wrd s___1 :: xs) (t := .nil) (nm := []) (M := M2 ++ [.dct false [] false]) (gd_wf _ _ gx2) (gd_sm (Nat.le_refl _) _ gx2) (by omega) (by omega) (at_new M2) (by simp only [List.length_nil]; omega)
  rw [out_new] at h26
  have h4 := tr4_ok (cf := callN fns (n2 + 3)) (m := m) (e1 := some (.lst (embs (.wrd s___1 :: xs)))) h26
  have hok := wF_ok (Nat.le_refl 1000) gx2
  have hnm : Nm (wF [] (.lst (.wrd s___1 :: xs) .nil)).2 := ⟨by omega, hok.1.short⟩
  have hlt := m_lt hM2
  have htd : td 4 = 803 := by decide
  obtain ⟨y, M4, h29, hy, hM4, hk4⟩ := e_tmp (m := m) (o := M2.length) hnm (by omega) 4 (n2 + 3) (by omega) (by omega) 0 (M2 ++ [.dct false (nms (wF [] (.lst (.wrd s___1 :: xs) .nil)).2) false]) (B + 2000) (at_new2 M2 _) hM2.app (by rw [htd]; omega)
  have h5 := tr5_ok (cf := callN fns (n2 + 3)) (m := m) (e1 := some (.lst (embs (.wrd s___1 :: xs)))) (X := emb (.lst (.wrd s___1 :: xs) .nil)) h29
  have h6 := tr6_ok (n := n2 + 2) (m := m) (e1 := some (.lst (embs (.wrd s___1 :: xs)))) (e2 := some (emb (.lst (.wrd s___1 :: xs) .nil))) (e3 := some (.obj M2.length)) (e4 := some (emb y)) (M := M4)
  have htw : tw 4 = 641 := by decide
  rw [htd] at hM4
  have hyd := hy.d
  have hyw := hy.w
  rw [htw] at hyw
  obtain ⟨r7, M6, h7, hM6⟩ := r_loop (n := n2 + 3) (m := m) (by omega) [0, 1, 2, 3] 7 641 (some (.lst (embs (.wrd s___1 :: xs)))) (some (.obj M2.length)) (.lst (.wrd s___1 :: xs) .nil) y none none none none none M4 (B + 2000 + 803) hM4 (by simp; omega) (by omega) (by simp) gx hy.g (by omega) (by omega) (by omega) hyw (by decide)
  have h7' : evS (callN fns (n2 + 3)) tr7 (rE m (some (.lst (embs (.wrd s___1 :: xs)))) (.lst (.wrd s___1 :: xs) .nil) (some (.obj M2.length)) y none none none none none) M4 = .nx r7 M6 := by
    unfold tr7
    rw [evS_for, evIt_range1]
    simp only [ev_k]
    rw [show small62 4 = true from by decide]
    exact h7
  exact ⟨M6, by rw [call__law_turn_right]; exact turn_run h1 h2 h3 h4 h5 h6 h7'⟩
/-- by hand -/
def isYes : R D → Bool
  | .ok (.bl true) _ => true
  | _ => false
theorem yes_ok {r : R D} (h : isYes r = true) : ∃ M, r = .ok (.bl true) M := by
  match r, h with
  | .ok (.bl true) M, _ => exact ⟨M, rfl⟩
theorem e_hand : ∃ M, callN fns 99 32 [] [] = .ok (.bl true) M := yes_ok (by decide +kernel)
def lawB : List St := [.ite (.not (.call 31 [(.call 17 [(.v 0), (.v 1)])])) [.ret (.k (.bl false))] []]
theorem law_code : c_law = [.ite (.not (.call 32 [])) [.ret (.k (.bl false))] [], .for (.v 1) (.range1 (.bin .add (.k (.int 3)) (.bi .min [(.bi .len [(.v 0)]), (.k (.int 3))]))) lawB, .ret (.k (.bl true))] := rfl
theorem law_turn {cf : CF} {X : D} {i : Int} {o : Nat} {M M1 M2 : Mem} (h17 : cf 17 [X, .int i] M = .ok (.obj o) M1) (h31 : cf 31 [.obj o] M1 = .ok (.bl true) M2) : evSs cf lawB [some X, some (.int i)] M = .nx [some X, some (.int i)] M2 := by
  simp [lawB, h17, h31]
theorem law_loop {n : Nat} (hn : 92 ≤ n) {ns : List Int} (hl : ns.length ≤ 63) (l : List Nat) : ∀ (e1 : Option D) (M : Mem), (∀ k ∈ l, k ≤ 100) → ∃ e1' M', forL (.v 1) (fun r m => evSs (callN fns n) lawB r m) ((l.map fun (k : Nat) => (k : Int)).map D.int) [some (intL ns), e1] M = .nx [some (intL ns), e1'] M' := by
  obtain ⟨n, rfl⟩ : ∃ n2, n = n2 + 1 := ⟨n - 1, by omega⟩
  induction l with
  | nil => intro e1 M _; exact ⟨e1, M, rfl⟩
  | cons k l ih =>
    intro e1 M h
    obtain ⟨x, h17, hM⟩ := e_begun (n := n) (k := k) (M := M) hl (h k List.mem_cons_self)
    obtain ⟨M2, h31⟩ := e_turn (n := n) hM (by omega) (by omega)
    have ht := law_turn h17 h31
    obtain ⟨e1', M', ih⟩ := ih (some (.int (k : Int))) M2 fun j hj => h j (List.mem_cons_of_mem _ hj)
    refine ⟨e1', M', ?_⟩
    rw [List.map_cons, List.map_cons, forL_cons (r1 := [some (intL ns), some (.int (k : Int))]) rfl, ht]
    exact ih
theorem law_end {cf : CF} {X : D} {it : List D} {e1 : Option D} {M0 M M' : Mem} (h32 : cf 32 [] M0 = .ok (.bl true) M) (hi : evIt cf (.range1 (.bin .add (.k (.int 3)) (.bi .min [(.bi .len [(.v 0)]), (.k (.int 3))]))) [some X, none] M = .ok (.vals it) M) (hf : forL (.v 1) (fun r m => evSs cf lawB r m) it [some X, none] M = .nx [some X, e1] M') : runFn cf ⟨1, 2, c_law⟩ [X] M0 = .ok (.bl true) M' := by
  rw [run_fn rfl, law_code]
  have h1 : evS cf (.ite (.not (.call 32 [])) [.ret (.k (.bl false))] []) [some X, none] M0 = .nx [some X, none] M := by simp [h32]
  have h2 : evS cf (.for (.v 1) (.range1 (.bin .add (.k (.int 3)) (.bi .min [(.bi .len [(.v 0)]), (.k (.int 3))]))) lawB) [some X, none] M = .nx [some X, e1] M' := by
    rw [evS_for, hi]
    exact hf
  show (match evSs cf _ [some X, none] M0 with
      | .nx _ m1 => R.ok D.non m1
      | .rt d m1 => R.ok d m1
      | _ => R.stop) = _
  simp only [evSs_cons, h1, h2]
  rfl
theorem plain_gen {n : Nat} (hn : 92 ≤ n) (ns : List Int) (h : ns.length ≤ 63) {M0 : Mem} (hh : ∃ M, callN fns n 32 [] M0 = .ok (.bl true) M) : ∃ M, runFn (callN fns n) ⟨1, 2, c_law⟩ [intL ns] M0 = .ok (.bl true) M := by
  obtain ⟨M, h32⟩ := hh
  have hmin : ∀ M, biD .min [.int (ns.length : Int), .int 3] M = .ok (.int (if (3 : Int) < (ns.length : Int) then 3 else (ns.length : Int))) M := fun M => rfl
  have hj0 : 0 ≤ 3 + (if (3 : Int) < (ns.length : Int) then 3 else (ns.length : Int)) := by split <;> omega
  have hj1 : 3 + (if (3 : Int) < (ns.length : Int) then 3 else (ns.length : Int)) ≤ 6 := by split <;> omega
  have hi : ∀ cf : CF, evIt cf (.range1 (.bin .add (.k (.int 3)) (.bi .min [(.bi .len [(.v 0)]), (.k (.int 3))]))) [some (intL ns), none] M = .ok (.vals (intRange 0 (3 + (if (3 : Int) < (ns.length : Int) then 3 else (ns.length : Int))))) M := by
    intro cf
    have hs := small_of hj0 (by omega)
    rw [evIt_range1]
    have hl : biD .len [intL ns] M = .ok (.int (ns.length : Int)) M := by simp [intL]
    simp only [ev_bin, ev_k, ev_bi, evs_cons, evs_nil, ev_v, List.getElem?_cons_zero, hl, hmin, add_int]
    rw [hs]
    rfl
  obtain ⟨e1, M', hf⟩ := law_loop hn h (List.range (3 + (if (3 : Int) < (ns.length : Int) then 3 else (ns.length : Int))).toNat) none M (fun k hk => by
    have := List.mem_range.mp hk
    omega)
  rw [← range_ints] at hf
  exact ⟨M', law_end h32 (hi _) hf⟩
theorem plain_law (ns : List Int) (h : ns.length ≤ 63) : ∃ M, callN fns 100 33 [.lst (ns.map D.int)] [] = .ok (.bl true) M := by
  obtain ⟨M, e⟩ := plain_gen (n := 99) (by omega) ns h e_hand
  exact ⟨M, by rw [call_law]; exact e⟩
end K96
set_option Elab.async false
set_option linter.all false
set_option maxRecDepth 100000
set_option maxHeartbeats 1000000
set_option autoImplicit false

namespace K96
open PySem PySem.Spec PyProof.Rows L2 MP
set_option maxHeartbeats 0 in
theorem all_mk {K : Fr} {h : Heap} {mg : Str → Option Value} (X : K.In h) (G : h.Ns mainGlobals mg)
    {f0 : Addr} {od0 an0 : Option Addr} {sl0 : Array (Option Value)} {oc0 kV0 dc0 pm0 cd0 ct0 : Value}
    {f1 : Addr} {od1 an1 : Option Addr} {sl1 : Array (Option Value)} {oc1 kV1 dc1 pm1 cd1 ct1 : Value}
    {f2 : Addr} {od2 an2 : Option Addr} {sl2 : Array (Option Value)} {oc2 kV2 dc2 pm2 cd2 ct2 : Value}
    {f3 : Addr} {od3 an3 : Option Addr} {sl3 : Array (Option Value)} {oc3 kV3 dc3 pm3 cd3 ct3 : Value}
    {f4 : Addr} {od4 an4 : Option Addr} {sl4 : Array (Option Value)} {oc4 kV4 dc4 pm4 cd4 ct4 : Value}
    {f5 : Addr} {od5 an5 : Option Addr} {sl5 : Array (Option Value)} {oc5 kV5 dc5 pm5 cd5 ct5 : Value}
    {f6 : Addr} {od6 an6 : Option Addr} {sl6 : Array (Option Value)} {oc6 kV6 dc6 pm6 cd6 ct6 : Value}
    {f7 : Addr} {od7 an7 : Option Addr} {sl7 : Array (Option Value)} {oc7 kV7 dc7 pm7 cd7 ct7 : Value}
    {f8 : Addr} {od8 an8 : Option Addr} {sl8 : Array (Option Value)} {oc8 kV8 dc8 pm8 cd8 ct8 : Value}
    {f9 : Addr} {od9 an9 : Option Addr} {sl9 : Array (Option Value)} {oc9 kV9 dc9 pm9 cd9 ct9 : Value}
    {f10 : Addr} {od10 an10 : Option Addr} {sl10 : Array (Option Value)} {oc10 kV10 dc10 pm10 cd10 ct10 : Value}
    {f11 : Addr} {od11 an11 : Option Addr} {sl11 : Array (Option Value)} {oc11 kV11 dc11 pm11 cd11 ct11 : Value}
    {f12 : Addr} {od12 an12 : Option Addr} {sl12 : Array (Option Value)} {oc12 kV12 dc12 pm12 cd12 ct12 : Value}
    {f13 : Addr} {od13 an13 : Option Addr} {sl13 : Array (Option Value)} {oc13 kV13 dc13 pm13 cd13 ct13 : Value}
    {f14 : Addr} {od14 an14 : Option Addr} {sl14 : Array (Option Value)} {oc14 kV14 dc14 pm14 cd14 ct14 : Value}
    {f15 : Addr} {od15 an15 : Option Addr} {sl15 : Array (Option Value)} {oc15 kV15 dc15 pm15 cd15 ct15 : Value}
    {f16 : Addr} {od16 an16 : Option Addr} {sl16 : Array (Option Value)} {oc16 kV16 dc16 pm16 cd16 ct16 : Value}
    {f17 : Addr} {od17 an17 : Option Addr} {sl17 : Array (Option Value)} {oc17 kV17 dc17 pm17 cd17 ct17 : Value}
    {f18 : Addr} {od18 an18 : Option Addr} {sl18 : Array (Option Value)} {oc18 kV18 dc18 pm18 cd18 ct18 : Value}
    {f19 : Addr} {od19 an19 : Option Addr} {sl19 : Array (Option Value)} {oc19 kV19 dc19 pm19 cd19 ct19 : Value}
    {f20 : Addr} {od20 an20 : Option Addr} {sl20 : Array (Option Value)} {oc20 kV20 dc20 pm20 cd20 ct20 : Value}
    {f21 : Addr} {od21 an21 : Option Addr} {sl21 : Array (Option Value)} {oc21 kV21 dc21 pm21 cd21 ct21 : Value}
    {f22 : Addr} {od22 an22 : Option Addr} {sl22 : Array (Option Value)} {oc22 kV22 dc22 pm22 cd22 ct22 : Value}
    {f23 : Addr} {od23 an23 : Option Addr} {sl23 : Array (Option Value)} {oc23 kV23 dc23 pm23 cd23 ct23 : Value}
    {f24 : Addr} {od24 an24 : Option Addr} {sl24 : Array (Option Value)} {oc24 kV24 dc24 pm24 cd24 ct24 : Value}
    {f25 : Addr} {od25 an25 : Option Addr} {sl25 : Array (Option Value)} {oc25 kV25 dc25 pm25 cd25 ct25 : Value}
    {f26 : Addr} {od26 an26 : Option Addr} {sl26 : Array (Option Value)} {oc26 kV26 dc26 pm26 cd26 ct26 : Value}
    {f27 : Addr} {od27 an27 : Option Addr} {sl27 : Array (Option Value)} {oc27 kV27 dc27 pm27 cd27 ct27 : Value}
    {f28 : Addr} {od28 an28 : Option Addr} {sl28 : Array (Option Value)} {oc28 kV28 dc28 pm28 cd28 ct28 : Value}
    {f29 : Addr} {od29 an29 : Option Addr} {sl29 : Array (Option Value)} {oc29 kV29 dc29 pm29 cd29 ct29 : Value}
    {f30 : Addr} {od30 an30 : Option Addr} {sl30 : Array (Option Value)} {oc30 kV30 dc30 pm30 cd30 ct30 : Value}
    {f31 : Addr} {od31 an31 : Option Addr} {sl31 : Array (Option Value)} {oc31 kV31 dc31 pm31 cd31 ct31 : Value}
    {f32 : Addr} {od32 an32 : Option Addr} {sl32 : Array (Option Value)} {oc32 kV32 dc32 pm32 cd32 ct32 : Value}
    {f33 : Addr} {od33 an33 : Option Addr} {sl33 : Array (Option Value)} {oc33 kV33 dc33 pm33 cd33 ct33 : Value}
    (a0 : PySem.W.nsIn K mainGlobals "is_list" = some (some (.ref f0))) (l0 : K.lookup f0 = some ⟨oc0, od0, .func (PySem.W.fnOf "is_list" "is_list" (defArgs t_is_list) (defBody t_is_list) (defScope t_is_list) .none kV0 dc0 pm0 an0 cd0 ct0), sl0⟩) (e0 : PySem.W.codeIn K cd0 "is_list" = true) (p0 : PySem.W.keepIn K (.ref f0) = true)
    (a1 : PySem.W.nsIn K mainGlobals "node_of" = some (some (.ref f1))) (l1 : K.lookup f1 = some ⟨oc1, od1, .func (PySem.W.fnOf "node_of" "node_of" (defArgs t_node_of) (defBody t_node_of) (defScope t_node_of) .none kV1 dc1 pm1 an1 cd1 ct1), sl1⟩) (e1 : PySem.W.codeIn K cd1 "node_of" = true) (p1 : PySem.W.keepIn K (.ref f1) = true)
    (a2 : PySem.W.nsIn K mainGlobals "path_of" = some (some (.ref f2))) (l2 : K.lookup f2 = some ⟨oc2, od2, .func (PySem.W.fnOf "path_of" "path_of" (defArgs t_path_of) (defBody t_path_of) (defScope t_path_of) .none kV2 dc2 pm2 an2 cd2 ct2), sl2⟩) (e2 : PySem.W.codeIn K cd2 "path_of" = true) (p2 : PySem.W.keepIn K (.ref f2) = true)
    (a3 : PySem.W.nsIn K mainGlobals "letters" = some (some (.ref f3))) (l3 : K.lookup f3 = some ⟨oc3, od3, .func (PySem.W.fnOf "letters" "letters" (defArgs t_letters) (defBody t_letters) (defScope t_letters) .none kV3 dc3 pm3 an3 cd3 ct3), sl3⟩) (e3 : PySem.W.codeIn K cd3 "letters" = true) (p3 : PySem.W.keepIn K (.ref f3) = true)
    (a4 : PySem.W.nsIn K mainGlobals "words_in" = some (some (.ref f4))) (l4 : K.lookup f4 = some ⟨oc4, od4, .func (PySem.W.fnOf "words_in" "words_in" (defArgs t_words_in) (defBody t_words_in) (defScope t_words_in) .none kV4 dc4 pm4 an4 cd4 ct4), sl4⟩) (e4 : PySem.W.codeIn K cd4 "words_in" = true) (p4 : PySem.W.keepIn K (.ref f4) = true)
    (a5 : PySem.W.nsIn K mainGlobals "is_mark" = some (some (.ref f5))) (l5 : K.lookup f5 = some ⟨oc5, od5, .func (PySem.W.fnOf "is_mark" "is_mark" (defArgs t_is_mark) (defBody t_is_mark) (defScope t_is_mark) .none kV5 dc5 pm5 an5 cd5 ct5), sl5⟩) (e5 : PySem.W.codeIn K cd5 "is_mark" = true) (p5 : PySem.W.keepIn K (.ref f5) = true)
    (a6 : PySem.W.nsIn K mainGlobals "is_plain_tail" = some (some (.ref f6))) (l6 : K.lookup f6 = some ⟨oc6, od6, .func (PySem.W.fnOf "is_plain_tail" "is_plain_tail" (defArgs t_is_plain_tail) (defBody t_is_plain_tail) (defScope t_is_plain_tail) .none kV6 dc6 pm6 an6 cd6 ct6), sl6⟩) (e6 : PySem.W.codeIn K cd6 "is_plain_tail" = true) (p6 : PySem.W.keepIn K (.ref f6) = true)
    (a7 : PySem.W.nsIn K mainGlobals "pattern_fault" = some (some (.ref f7))) (l7 : K.lookup f7 = some ⟨oc7, od7, .func (PySem.W.fnOf "pattern_fault" "pattern_fault" (defArgs t_pattern_fault) (defBody t_pattern_fault) (defScope t_pattern_fault) .none kV7 dc7 pm7 an7 cd7 ct7), sl7⟩) (e7 : PySem.W.codeIn K cd7 "pattern_fault" = true) (p7 : PySem.W.keepIn K (.ref f7) = true)
    (a8 : PySem.W.nsIn K mainGlobals "row_fault" = some (some (.ref f8))) (l8 : K.lookup f8 = some ⟨oc8, od8, .func (PySem.W.fnOf "row_fault" "row_fault" (defArgs t_row_fault) (defBody t_row_fault) (defScope t_row_fault) .none kV8 dc8 pm8 an8 cd8 ct8), sl8⟩) (e8 : PySem.W.codeIn K cd8 "row_fault" = true) (p8 : PySem.W.keepIn K (.ref f8) = true)
    (a9 : PySem.W.nsIn K mainGlobals "whole_fault" = some (some (.ref f9))) (l9 : K.lookup f9 = some ⟨oc9, od9, .func (PySem.W.fnOf "whole_fault" "whole_fault" (defArgs t_whole_fault) (defBody t_whole_fault) (defScope t_whole_fault) .none kV9 dc9 pm9 an9 cd9 ct9), sl9⟩) (e9 : PySem.W.codeIn K cd9 "whole_fault" = true) (p9 : PySem.W.keepIn K (.ref f9) = true)
    (a10 : PySem.W.nsIn K mainGlobals "is_as_it_is" = some (some (.ref f10))) (l10 : K.lookup f10 = some ⟨oc10, od10, .func (PySem.W.fnOf "is_as_it_is" "is_as_it_is" (defArgs t_is_as_it_is) (defBody t_is_as_it_is) (defScope t_is_as_it_is) .none kV10 dc10 pm10 an10 cd10 ct10), sl10⟩) (e10 : PySem.W.codeIn K cd10 "is_as_it_is" = true) (p10 : PySem.W.keepIn K (.ref f10) = true)
    (a11 : PySem.W.nsIn K mainGlobals "has_name" = some (some (.ref f11))) (l11 : K.lookup f11 = some ⟨oc11, od11, .func (PySem.W.fnOf "has_name" "has_name" (defArgs t_has_name) (defBody t_has_name) (defScope t_has_name) .none kV11 dc11 pm11 an11 cd11 ct11), sl11⟩) (e11 : PySem.W.codeIn K cd11 "has_name" = true) (p11 : PySem.W.keepIn K (.ref f11) = true)
    (a12 : PySem.W.nsIn K mainGlobals "template_fault" = some (some (.ref f12))) (l12 : K.lookup f12 = some ⟨oc12, od12, .func (PySem.W.fnOf "template_fault" "template_fault" (defArgs t_template_fault) (defBody t_template_fault) (defScope t_template_fault) .none kV12 dc12 pm12 an12 cd12 ct12), sl12⟩) (e12 : PySem.W.codeIn K cd12 "template_fault" = true) (p12 : PySem.W.keepIn K (.ref f12) = true)
    (a13 : PySem.W.nsIn K mainGlobals "plain_rule" = some (some (.ref f13))) (l13 : K.lookup f13 = some ⟨oc13, od13, .func (PySem.W.fnOf "plain_rule" "plain_rule" (defArgs t_plain_rule) (defBody t_plain_rule) (defScope t_plain_rule) .none kV13 dc13 pm13 an13 cd13 ct13), sl13⟩) (e13 : PySem.W.codeIn K cd13 "plain_rule" = true) (p13 : PySem.W.keepIn K (.ref f13) = true)
    (a14 : PySem.W.nsIn K mainGlobals "rule_fault" = some (some (.ref f14))) (l14 : K.lookup f14 = some ⟨oc14, od14, .func (PySem.W.fnOf "rule_fault" "rule_fault" (defArgs t_rule_fault) (defBody t_rule_fault) (defScope t_rule_fault) .none kV14 dc14 pm14 an14 cd14 ct14), sl14⟩) (e14 : PySem.W.codeIn K cd14 "rule_fault" = true) (p14 : PySem.W.keepIn K (.ref f14) = true)
    (a15 : PySem.W.nsIn K mainGlobals "looked_at" = some (some (.ref f15))) (l15 : K.lookup f15 = some ⟨oc15, od15, .func (PySem.W.fnOf "looked_at" "looked_at" (defArgs t_looked_at) (defBody t_looked_at) (defScope t_looked_at) .none kV15 dc15 pm15 an15 cd15 ct15), sl15⟩) (e15 : PySem.W.codeIn K cd15 "looked_at" = true) (p15 : PySem.W.keepIn K (.ref f15) = true)
    (a16 : PySem.W.nsIn K mainGlobals "pattern_names" = some (some (.ref f16))) (l16 : K.lookup f16 = some ⟨oc16, od16, .func (PySem.W.fnOf "pattern_names" "pattern_names" (defArgs t_pattern_names) (defBody t_pattern_names) (defScope t_pattern_names) .none kV16 dc16 pm16 an16 cd16 ct16), sl16⟩) (e16 : PySem.W.codeIn K cd16 "pattern_names" = true) (p16 : PySem.W.keepIn K (.ref f16) = true)
    (a17 : PySem.W.nsIn K mainGlobals "_law_begun" = some (some (.ref f17))) (l17 : K.lookup f17 = some ⟨oc17, od17, .func (PySem.W.fnOf "_law_begun" "_law_begun" (defArgs t__law_begun) (defBody t__law_begun) (defScope t__law_begun) .none kV17 dc17 pm17 an17 cd17 ct17), sl17⟩) (e17 : PySem.W.codeIn K cd17 "_law_begun" = true) (p17 : PySem.W.keepIn K (.ref f17) = true)
    (a18 : PySem.W.nsIn K mainGlobals "_law_draw" = some (some (.ref f18))) (l18 : K.lookup f18 = some ⟨oc18, od18, .func (PySem.W.fnOf "_law_draw" "_law_draw" (defArgs t__law_draw) (defBody t__law_draw) (defScope t__law_draw) .none kV18 dc18 pm18 an18 cd18 ct18), sl18⟩) (e18 : PySem.W.codeIn K cd18 "_law_draw" = true) (p18 : PySem.W.keepIn K (.ref f18) = true)
    (a19 : PySem.W.nsIn K mainGlobals "_law_of" = some (some (.ref f19))) (l19 : K.lookup f19 = some ⟨oc19, od19, .func (PySem.W.fnOf "_law_of" "_law_of" (defArgs t__law_of) (defBody t__law_of) (defScope t__law_of) .none kV19 dc19 pm19 an19 cd19 ct19), sl19⟩) (e19 : PySem.W.codeIn K cd19 "_law_of" = true) (p19 : PySem.W.keepIn K (.ref f19) = true)
    (a20 : PySem.W.nsIn K mainGlobals "_law_w" = some (some (.ref f20))) (l20 : K.lookup f20 = some ⟨oc20, od20, .func (PySem.W.fnOf "_law_w" "_law_w" (defArgs t__law_w) (defBody t__law_w) (defScope t__law_w) .none kV20 dc20 pm20 an20 cd20 ct20), sl20⟩) (e20 : PySem.W.codeIn K cd20 "_law_w" = true) (p20 : PySem.W.keepIn K (.ref f20) = true)
    (a21 : PySem.W.nsIn K mainGlobals "_law_is_list" = some (some (.ref f21))) (l21 : K.lookup f21 = some ⟨oc21, od21, .func (PySem.W.fnOf "_law_is_list" "_law_is_list" (defArgs t__law_is_list) (defBody t__law_is_list) (defScope t__law_is_list) .none kV21 dc21 pm21 an21 cd21 ct21), sl21⟩) (e21 : PySem.W.codeIn K cd21 "_law_is_list" = true) (p21 : PySem.W.keepIn K (.ref f21) = true)
    (a22 : PySem.W.nsIn K mainGlobals "_law_is_word" = some (some (.ref f22))) (l22 : K.lookup f22 = some ⟨oc22, od22, .func (PySem.W.fnOf "_law_is_word" "_law_is_word" (defArgs t__law_is_word) (defBody t__law_is_word) (defScope t__law_is_word) .none kV22 dc22 pm22 an22 cd22 ct22), sl22⟩) (e22 : PySem.W.codeIn K cd22 "_law_is_word" = true) (p22 : PySem.W.keepIn K (.ref f22) = true)
    (a23 : PySem.W.nsIn K mainGlobals "_law_is_mark" = some (some (.ref f23))) (l23 : K.lookup f23 = some ⟨oc23, od23, .func (PySem.W.fnOf "_law_is_mark" "_law_is_mark" (defArgs t__law_is_mark) (defBody t__law_is_mark) (defScope t__law_is_mark) .none kV23 dc23 pm23 an23 cd23 ct23), sl23⟩) (e23 : PySem.W.codeIn K cd23 "_law_is_mark" = true) (p23 : PySem.W.keepIn K (.ref f23) = true)
    (a24 : PySem.W.nsIn K mainGlobals "_law_words_in" = some (some (.ref f24))) (l24 : K.lookup f24 = some ⟨oc24, od24, .func (PySem.W.fnOf "_law_words_in" "_law_words_in" (defArgs t__law_words_in) (defBody t__law_words_in) (defScope t__law_words_in) .none kV24 dc24 pm24 an24 cd24 ct24), sl24⟩) (e24 : PySem.W.codeIn K cd24 "_law_words_in" = true) (p24 : PySem.W.keepIn K (.ref f24) = true)
    (a25 : PySem.W.nsIn K mainGlobals "_law_p_fault" = some (some (.ref f25))) (l25 : K.lookup f25 = some ⟨oc25, od25, .func (PySem.W.fnOf "_law_p_fault" "_law_p_fault" (defArgs t__law_p_fault) (defBody t__law_p_fault) (defScope t__law_p_fault) .none kV25 dc25 pm25 an25 cd25 ct25), sl25⟩) (e25 : PySem.W.codeIn K cd25 "_law_p_fault" = true) (p25 : PySem.W.keepIn K (.ref f25) = true)
    (a26 : PySem.W.nsIn K mainGlobals "_law_p_items" = some (some (.ref f26))) (l26 : K.lookup f26 = some ⟨oc26, od26, .func (PySem.W.fnOf "_law_p_items" "_law_p_items" (defArgs t__law_p_items) (defBody t__law_p_items) (defScope t__law_p_items) .none kV26 dc26 pm26 an26 cd26 ct26), sl26⟩) (e26 : PySem.W.codeIn K cd26 "_law_p_items" = true) (p26 : PySem.W.keepIn K (.ref f26) = true)
    (a27 : PySem.W.nsIn K mainGlobals "_law_t_fault" = some (some (.ref f27))) (l27 : K.lookup f27 = some ⟨oc27, od27, .func (PySem.W.fnOf "_law_t_fault" "_law_t_fault" (defArgs t__law_t_fault) (defBody t__law_t_fault) (defScope t__law_t_fault) .none kV27 dc27 pm27 an27 cd27 ct27), sl27⟩) (e27 : PySem.W.codeIn K cd27 "_law_t_fault" = true) (p27 : PySem.W.keepIn K (.ref f27) = true)
    (a28 : PySem.W.nsIn K mainGlobals "_law_pattern" = some (some (.ref f28))) (l28 : K.lookup f28 = some ⟨oc28, od28, .func (PySem.W.fnOf "_law_pattern" "_law_pattern" (defArgs t__law_pattern) (defBody t__law_pattern) (defScope t__law_pattern) .none kV28 dc28 pm28 an28 cd28 ct28), sl28⟩) (e28 : PySem.W.codeIn K cd28 "_law_pattern" = true) (p28 : PySem.W.keepIn K (.ref f28) = true)
    (a29 : PySem.W.nsIn K mainGlobals "_law_template" = some (some (.ref f29))) (l29 : K.lookup f29 = some ⟨oc29, od29, .func (PySem.W.fnOf "_law_template" "_law_template" (defArgs t__law_template) (defBody t__law_template) (defScope t__law_template) .none kV29 dc29 pm29 an29 cd29 ct29), sl29⟩) (e29 : PySem.W.codeIn K cd29 "_law_template" = true) (p29 : PySem.W.keepIn K (.ref f29) = true)
    (a30 : PySem.W.nsIn K mainGlobals "_law_bent" = some (some (.ref f30))) (l30 : K.lookup f30 = some ⟨oc30, od30, .func (PySem.W.fnOf "_law_bent" "_law_bent" (defArgs t__law_bent) (defBody t__law_bent) (defScope t__law_bent) .none kV30 dc30 pm30 an30 cd30 ct30), sl30⟩) (e30 : PySem.W.codeIn K cd30 "_law_bent" = true) (p30 : PySem.W.keepIn K (.ref f30) = true)
    (a31 : PySem.W.nsIn K mainGlobals "_law_turn_right" = some (some (.ref f31))) (l31 : K.lookup f31 = some ⟨oc31, od31, .func (PySem.W.fnOf "_law_turn_right" "_law_turn_right" (defArgs t__law_turn_right) (defBody t__law_turn_right) (defScope t__law_turn_right) .none kV31 dc31 pm31 an31 cd31 ct31), sl31⟩) (e31 : PySem.W.codeIn K cd31 "_law_turn_right" = true) (p31 : PySem.W.keepIn K (.ref f31) = true)
    (a32 : PySem.W.nsIn K mainGlobals "_law_hand_right" = some (some (.ref f32))) (l32 : K.lookup f32 = some ⟨oc32, od32, .func (PySem.W.fnOf "_law_hand_right" "_law_hand_right" (defArgs t__law_hand_right) (defBody t__law_hand_right) (defScope t__law_hand_right) .none kV32 dc32 pm32 an32 cd32 ct32), sl32⟩) (e32 : PySem.W.codeIn K cd32 "_law_hand_right" = true) (p32 : PySem.W.keepIn K (.ref f32) = true)
    (a33 : PySem.W.nsIn K mainGlobals "law" = some (some (.ref f33))) (l33 : K.lookup f33 = some ⟨oc33, od33, .func (PySem.W.fnOf "law" "law" (defArgs t_law) (defBody t_law) (defScope t_law) .none kV33 dc33 pm33 an33 cd33 ct33), sl33⟩) (e33 : PySem.W.codeIn K cd33 "law" = true) (p33 : PySem.W.keepIn K (.ref f33) = true)
    (z0 : PySem.W.nsIn K mainGlobals "len" = some none)
    (z1 : PySem.W.nsIn K mainGlobals "isinstance" = some none)
    (z2 : PySem.W.nsIn K mainGlobals "tuple" = some none)
    (z3 : PySem.W.nsIn K mainGlobals "str" = some none)
    (z4 : PySem.W.nsIn K mainGlobals "enumerate" = some none)
    (z5 : PySem.W.nsIn K mainGlobals "list" = some none)
    (z6 : PySem.W.nsIn K mainGlobals "int" = some none)
    (z7 : PySem.W.nsIn K mainGlobals "range" = some none)
    (z8 : PySem.W.nsIn K mainGlobals "repr" = some none)
    (z9 : PySem.W.nsIn K mainGlobals "sorted" = some none)
    (z10 : PySem.W.nsIn K mainGlobals "min" = some none)
    : Ds K mg ∧ Bu mg ∧ ∃ (f : Addr) (fd : FuncData), Fun K "law" "law" t_law f fd ∧ mg "law" = some (.ref f) ∧ ∀ (s : Shared) (u : Value), BindsTo s fd ⟨[u], []⟩ [("script", u)] := by
  have F0 := fun_mk (st := t_is_list) l0 e0 p0
  have F1 := fun_mk (st := t_node_of) l1 e1 p1
  have F2 := fun_mk (st := t_path_of) l2 e2 p2
  have F3 := fun_mk (st := t_letters) l3 e3 p3
  have F4 := fun_mk (st := t_words_in) l4 e4 p4
  have F5 := fun_mk (st := t_is_mark) l5 e5 p5
  have F6 := fun_mk (st := t_is_plain_tail) l6 e6 p6
  have F7 := fun_mk (st := t_pattern_fault) l7 e7 p7
  have F8 := fun_mk (st := t_row_fault) l8 e8 p8
  have F9 := fun_mk (st := t_whole_fault) l9 e9 p9
  have F10 := fun_mk (st := t_is_as_it_is) l10 e10 p10
  have F11 := fun_mk (st := t_has_name) l11 e11 p11
  have F12 := fun_mk (st := t_template_fault) l12 e12 p12
  have F13 := fun_mk (st := t_plain_rule) l13 e13 p13
  have F14 := fun_mk (st := t_rule_fault) l14 e14 p14
  have F15 := fun_mk (st := t_looked_at) l15 e15 p15
  have F16 := fun_mk (st := t_pattern_names) l16 e16 p16
  have F17 := fun_mk (st := t__law_begun) l17 e17 p17
  have F18 := fun_mk (st := t__law_draw) l18 e18 p18
  have F19 := fun_mk (st := t__law_of) l19 e19 p19
  have F20 := fun_mk (st := t__law_w) l20 e20 p20
  have F21 := fun_mk (st := t__law_is_list) l21 e21 p21
  have F22 := fun_mk (st := t__law_is_word) l22 e22 p22
  have F23 := fun_mk (st := t__law_is_mark) l23 e23 p23
  have F24 := fun_mk (st := t__law_words_in) l24 e24 p24
  have F25 := fun_mk (st := t__law_p_fault) l25 e25 p25
  have F26 := fun_mk (st := t__law_p_items) l26 e26 p26
  have F27 := fun_mk (st := t__law_t_fault) l27 e27 p27
  have F28 := fun_mk (st := t__law_pattern) l28 e28 p28
  have F29 := fun_mk (st := t__law_template) l29 e29 p29
  have F30 := fun_mk (st := t__law_bent) l30 e30 p30
  have F31 := fun_mk (st := t__law_turn_right) l31 e31 p31
  have F32 := fun_mk (st := t__law_hand_right) l32 e32 p32
  have F33 := fun_mk (st := t_law) l33 e33 p33
  refine ⟨⟨⟨f0, _, F0, PySem.W.mg_of X G a0, F0.binds fun _ _ _ _ _ _ us hl => match us, hl with | [_], _ => rfl⟩, ⟨f1, _, F1, PySem.W.mg_of X G a1, F1.binds fun _ _ _ _ _ _ us hl => match us, hl with | [_, _], _ => rfl⟩, ⟨f2, _, F2, PySem.W.mg_of X G a2, F2.binds fun _ _ _ _ _ _ us hl => match us, hl with | [_], _ => rfl⟩, ⟨f3, _, F3, PySem.W.mg_of X G a3, F3.binds fun _ _ _ _ _ _ us hl => match us, hl with | [_, _], _ => rfl⟩, ⟨f4, _, F4, PySem.W.mg_of X G a4, F4.binds fun _ _ _ _ _ _ us hl => match us, hl with | [_], _ => rfl⟩, ⟨f5, _, F5, PySem.W.mg_of X G a5, F5.binds fun _ _ _ _ _ _ us hl => match us, hl with | [_, _], _ => rfl⟩, ⟨f6, _, F6, PySem.W.mg_of X G a6, F6.binds fun _ _ _ _ _ _ us hl => match us, hl with | [_], _ => rfl⟩, ⟨f7, _, F7, PySem.W.mg_of X G a7, F7.binds fun _ _ _ _ _ _ us hl => match us, hl with | [_, _, _], _ => rfl⟩, ⟨f8, _, F8, PySem.W.mg_of X G a8, F8.binds fun _ _ _ _ _ _ us hl => match us, hl with | [_, _, _, _], _ => rfl⟩, ⟨f9, _, F9, PySem.W.mg_of X G a9, F9.binds fun _ _ _ _ _ _ us hl => match us, hl with | [_, _], _ => rfl⟩, ⟨f10, _, F10, PySem.W.mg_of X G a10, F10.binds fun _ _ _ _ _ _ us hl => match us, hl with | [_, _], _ => rfl⟩, ⟨f11, _, F11, PySem.W.mg_of X G a11, F11.binds fun _ _ _ _ _ _ us hl => match us, hl with | [_, _], _ => rfl⟩, ⟨f12, _, F12, PySem.W.mg_of X G a12, F12.binds fun _ _ _ _ _ _ us hl => match us, hl with | [_, _, _, _], _ => rfl⟩, ⟨f13, _, F13, PySem.W.mg_of X G a13, F13.binds fun _ _ _ _ _ _ us hl => match us, hl with | [_], _ => rfl⟩, ⟨f14, _, F14, PySem.W.mg_of X G a14, F14.binds fun _ _ _ _ _ _ us hl => match us, hl with | [_, _, _], _ => rfl⟩, ⟨f15, _, F15, PySem.W.mg_of X G a15, F15.binds fun _ _ _ _ _ _ us hl => match us, hl with | [_, _], _ => rfl⟩, ⟨f16, _, F16, PySem.W.mg_of X G a16, F16.binds fun _ _ _ _ _ _ us hl => match us, hl with | [_, _], _ => rfl⟩, ⟨f17, _, F17, PySem.W.mg_of X G a17, F17.binds fun _ _ _ _ _ _ us hl => match us, hl with | [_, _], _ => rfl⟩, ⟨f18, _, F18, PySem.W.mg_of X G a18, F18.binds fun _ _ _ _ _ _ us hl => match us, hl with | [_, _], _ => rfl⟩, ⟨f19, _, F19, PySem.W.mg_of X G a19, F19.binds fun _ _ _ _ _ _ us hl => match us, hl with | [_, _], _ => rfl⟩, ⟨f20, _, F20, PySem.W.mg_of X G a20, F20.binds fun _ _ _ _ _ _ us hl => match us, hl with | [_], _ => rfl⟩, ⟨f21, _, F21, PySem.W.mg_of X G a21, F21.binds fun _ _ _ _ _ _ us hl => match us, hl with | [_], _ => rfl⟩, ⟨f22, _, F22, PySem.W.mg_of X G a22, F22.binds fun _ _ _ _ _ _ us hl => match us, hl with | [_], _ => rfl⟩, ⟨f23, _, F23, PySem.W.mg_of X G a23, F23.binds fun _ _ _ _ _ _ us hl => match us, hl with | [_], _ => rfl⟩, ⟨f24, _, F24, PySem.W.mg_of X G a24, F24.binds fun _ _ _ _ _ _ us hl => match us, hl with | [_], _ => rfl⟩, ⟨f25, _, F25, PySem.W.mg_of X G a25, F25.binds fun _ _ _ _ _ _ us hl => match us, hl with | [_, _, _, _, _], _ => rfl⟩, ⟨f26, _, F26, PySem.W.mg_of X G a26, F26.binds fun _ _ _ _ _ _ us hl => match us, hl with | [_, _, _, _, _, _], _ => rfl⟩, ⟨f27, _, F27, PySem.W.mg_of X G a27, F27.binds fun _ _ _ _ _ _ us hl => match us, hl with | [_, _, _, _, _], _ => rfl⟩, ⟨f28, _, F28, PySem.W.mg_of X G a28, F28.binds fun _ _ _ _ _ _ us hl => match us, hl with | [_, _], _ => rfl⟩, ⟨f29, _, F29, PySem.W.mg_of X G a29, F29.binds fun _ _ _ _ _ _ us hl => match us, hl with | [_, _, _, _], _ => rfl⟩, ⟨f30, _, F30, PySem.W.mg_of X G a30, F30.binds fun _ _ _ _ _ _ us hl => match us, hl with | [_, _, _], _ => rfl⟩, ⟨f31, _, F31, PySem.W.mg_of X G a31, F31.binds fun _ _ _ _ _ _ us hl => match us, hl with | [_], _ => rfl⟩, ⟨f32, _, F32, PySem.W.mg_of X G a32, F32.binds fun _ _ _ _ _ _ us hl => match us, hl with | [], _ => rfl⟩, ⟨f33, _, F33, PySem.W.mg_of X G a33, F33.binds fun _ _ _ _ _ _ us hl => match us, hl with | [_], _ => rfl⟩⟩, ⟨PySem.W.mg_none_of X G z0, PySem.W.mg_none_of X G z1, PySem.W.mg_none_of X G z2, PySem.W.mg_none_of X G z3, PySem.W.mg_none_of X G z4, PySem.W.mg_none_of X G z5, PySem.W.mg_none_of X G z6, PySem.W.mg_none_of X G z7, PySem.W.mg_none_of X G z8, PySem.W.mg_none_of X G z9, PySem.W.mg_none_of X G z10⟩, f33, _, F33, PySem.W.mg_of X G a33, fun s v => .of_eq rfl⟩
theorem law_fn {P : Program} {w : World} {K : Fr} {mg : Str → Option Value} (D : Ds K mg) (B : Bu mg) (k : Nat) {f : Addr} {fd : FuncData} (F : Fun K "law" "law" t_law f fd) (hm : mg "law" = some (.ref f)) (base : Heap) : FnG P w K mg base CX0 k f fd ["script"] (spOf K (callN fns k) 33 1) := by
  obtain ⟨f2, fd2, F2, hm2, _, G⟩ := (cs_all (P := P) (w := w) (base := base) B D k).o33.ex
  rw [hm] at hm2
  cases hm2
  obtain ⟨_, _, _, _, _, _, _, _, _, _, k1, _⟩ := F.ex
  obtain ⟨_, _, _, _, _, _, _, _, _, _, k2, _⟩ := F2.ex
  rw [k1] at k2
  cases k2
  exact G
end K96
open PySem PySem.W PyProof.Rows
set_option maxRecDepth 100000 in
set_option maxHeartbeats 0 in
theorem PySem.Challenge.cw_keptrest_k96_whole_rule_faults_holds : PySem.Challenge.rw_keptrest_k96_whole_rule_faults.Holds := by
  w_on; o_law; k_head; (case hw => w_witness2)
  k_fill
  refine MP.walkG (l := PySem.Challenge.rw_keptrest_k96_whole_rule_faults) (T := K96.fns) (i := 33) (k := 100) (st := .Pass ⟨0, 0, 0, 0⟩) (x := "script") rfl (by decide) rfl ⟨rfl, by decide, by decide⟩ (fun w h Y => PySem.W.kIn_of Y) ?F K96.plain_law
  case F =>
    intro w mg h KX G
    refine' (fun z => let ⟨D, B, f, fd, F, hm, hb⟩ := z; ⟨f, fd, hm, hb, fun base _ _ => K96.law_fn D B 100 F hm base⟩) (K96.all_mk KX G ?a0 ?l0 ?e0 ?p0 ?a1 ?l1 ?e1 ?p1 ?a2 ?l2 ?e2 ?p2 ?a3 ?l3 ?e3 ?p3 ?a4 ?l4 ?e4 ?p4 ?a5 ?l5 ?e5 ?p5 ?a6 ?l6 ?e6 ?p6 ?a7 ?l7 ?e7 ?p7 ?a8 ?l8 ?e8 ?p8 ?a9 ?l9 ?e9 ?p9 ?a10 ?l10 ?e10 ?p10 ?a11 ?l11 ?e11 ?p11 ?a12 ?l12 ?e12 ?p12 ?a13 ?l13 ?e13 ?p13 ?a14 ?l14 ?e14 ?p14 ?a15 ?l15 ?e15 ?p15 ?a16 ?l16 ?e16 ?p16 ?a17 ?l17 ?e17 ?p17 ?a18 ?l18 ?e18 ?p18 ?a19 ?l19 ?e19 ?p19 ?a20 ?l20 ?e20 ?p20 ?a21 ?l21 ?e21 ?p21 ?a22 ?l22 ?e22 ?p22 ?a23 ?l23 ?e23 ?p23 ?a24 ?l24 ?e24 ?p24 ?a25 ?l25 ?e25 ?p25 ?a26 ?l26 ?e26 ?p26 ?a27 ?l27 ?e27 ?p27 ?a28 ?l28 ?e28 ?p28 ?a29 ?l29 ?e29 ?p29 ?a30 ?l30 ?e30 ?p30 ?a31 ?l31 ?e31 ?p31 ?a32 ?l32 ?e32 ?p32 ?a33 ?l33 ?e33 ?p33 ?z0 ?z1 ?z2 ?z3 ?z4 ?z5 ?z6 ?z7 ?z8 ?z9 ?z10)
    (case a0 => k_is); (case l0 => k_is); (case e0 => k_is); (case p0 => k_is)
    (case a1 => k_is); (case l1 => k_is); (case e1 => k_is); (case p1 => k_is)
    (case a2 => k_is); (case l2 => k_is); (case e2 => k_is); (case p2 => k_is)
    (case a3 => k_is); (case l3 => k_is); (case e3 => k_is); (case p3 => k_is)
    (case a4 => k_is); (case l4 => k_is); (case e4 => k_is); (case p4 => k_is)
    (case a5 => k_is); (case l5 => k_is); (case e5 => k_is); (case p5 => k_is)
    (case a6 => k_is); (case l6 => k_is); (case e6 => k_is); (case p6 => k_is)
    (case a7 => k_is); (case l7 => k_is); (case e7 => k_is); (case p7 => k_is)
    (case a8 => k_is); (case l8 => k_is); (case e8 => k_is); (case p8 => k_is)
    (case a9 => k_is); (case l9 => k_is); (case e9 => k_is); (case p9 => k_is)
    (case a10 => k_is); (case l10 => k_is); (case e10 => k_is); (case p10 => k_is)
    (case a11 => k_is); (case l11 => k_is); (case e11 => k_is); (case p11 => k_is)
    (case a12 => k_is); (case l12 => k_is); (case e12 => k_is); (case p12 => k_is)
    (case a13 => k_is); (case l13 => k_is); (case e13 => k_is); (case p13 => k_is)
    (case a14 => k_is); (case l14 => k_is); (case e14 => k_is); (case p14 => k_is)
    (case a15 => k_is); (case l15 => k_is); (case e15 => k_is); (case p15 => k_is)
    (case a16 => k_is); (case l16 => k_is); (case e16 => k_is); (case p16 => k_is)
    (case a17 => k_is); (case l17 => k_is); (case e17 => k_is); (case p17 => k_is)
    (case a18 => k_is); (case l18 => k_is); (case e18 => k_is); (case p18 => k_is)
    (case a19 => k_is); (case l19 => k_is); (case e19 => k_is); (case p19 => k_is)
    (case a20 => k_is); (case l20 => k_is); (case e20 => k_is); (case p20 => k_is)
    (case a21 => k_is); (case l21 => k_is); (case e21 => k_is); (case p21 => k_is)
    (case a22 => k_is); (case l22 => k_is); (case e22 => k_is); (case p22 => k_is)
    (case a23 => k_is); (case l23 => k_is); (case e23 => k_is); (case p23 => k_is)
    (case a24 => k_is); (case l24 => k_is); (case e24 => k_is); (case p24 => k_is)
    (case a25 => k_is); (case l25 => k_is); (case e25 => k_is); (case p25 => k_is)
    (case a26 => k_is); (case l26 => k_is); (case e26 => k_is); (case p26 => k_is)
    (case a27 => k_is); (case l27 => k_is); (case e27 => k_is); (case p27 => k_is)
    (case a28 => k_is); (case l28 => k_is); (case e28 => k_is); (case p28 => k_is)
    (case a29 => k_is); (case l29 => k_is); (case e29 => k_is); (case p29 => k_is)
    (case a30 => k_is); (case l30 => k_is); (case e30 => k_is); (case p30 => k_is)
    (case a31 => k_is); (case l31 => k_is); (case e31 => k_is); (case p31 => k_is)
    (case a32 => k_is); (case l32 => k_is); (case e32 => k_is); (case p32 => k_is)
    (case a33 => k_is); (case l33 => k_is); (case e33 => k_is); (case p33 => k_is)
    (case z0 => k_is)
    (case z1 => k_is)
    (case z2 => k_is)
    (case z3 => k_is)
    (case z4 => k_is)
    (case z5 => k_is)
    (case z6 => k_is)
    (case z7 => k_is)
    (case z8 => k_is)
    (case z9 => k_is)
    (case z10 => k_is)
