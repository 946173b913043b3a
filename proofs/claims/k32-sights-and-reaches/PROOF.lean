import PyProof.Rows.All
import PySem.PyData
import PyProof.ReprRoads
import PyProof.P3Statements
import HandS.ForMost
import HandS.Wide
import HandS.TupAny
import HandS.Style
import HandS.Flow
import HandS.Dict
import HandS.More
import HandS.Deep
import HandS.Conv
import KE.DataFind
import KE.KDictPairs
import KE.KDictKeyed
import HandS.IsInst
import HandS.Ends
import HandS.Zip
import KE.GoesMore
import KE.GoesZip
import KE.GoesEnum
import HandS.Comp
import HandS.Words
import HandS.Codes
import HandS.Gcd
import PyProof.ReprLen
import PySem.Challenge.RW_ridgewatch_k32_whole_sights_and_reaches
/-! ## CrA -/
set_option Elab.async false
set_option linter.all false
/-! CrA: a small language of numbered variables, and its evaluator over deep data and a store of mutable lists. -/
namespace Cr
open PySem

inductive PV where
  | d (x : PyData)
  | r (n : Nat)
inductive PO where
  | lst (xs : List PyData)
  | src (cells : List Int) (left mixed turn : Int)
abbrev Store := List PO
abbrev Ev := List (Option PV)

inductive BOp where
  | add | sub | mul | fdiv | mod
  deriving DecidableEq
inductive COp where
  | lt | le | gt | ge | eq | ne | isN | notN | isin | notin
  deriving DecidableEq
/-- built-ins by name on values -/
inductive Bf where
  | len | abs | int | bool | mx | mn | any | all | tuple | list | sum | repr | isInt | isBool | isTup | isList | keys
  deriving DecidableEq
/-- methods -/
inductive Mt where
  | append | insert | pop | popAt | remove | extend | index
  deriving DecidableEq
inductive Pat where
  | nm (i : Nat)
  | tup (ps : List Pat)

inductive CE where
  | var (i : Nat)
  | cst (x : PyData)
  | tup (es : List CE)
  | lst (es : List CE)
  | star (e : CE)
  | bin (op : BOp) (a b : CE)
  | neg (a : CE)
  | not (a : CE)
  | cmp (op : COp) (a b : CE)
  | chain (op1 op2 : COp) (a b c : CE)
  | and (a b : CE)
  | or (a b : CE)
  | ite (c a b : CE)
  | ix (a i : CE)
  | sl (a lo hi : CE)
  | no
  | back (a : CE)
  | call (f : Nat) (args : List CE)
  | bf (f : Bf) (args : List CE)
  | met (m : Mt) (o : CE) (args : List CE)
  | rng (a b : CE)
  | enm (a : CE)
  | zip (a b : CE)
  | zip3 (a b c : CE)
  | comp (own : List Nat) (p : Pat) (it : CE) (ifs : List CE) (elt : CE)
  | comp2 (own : List Nat) (p : Pat) (it : CE) (ifs : List CE) (p2 : Pat) (own2 : List Nat) (it2 : CE) (ifs2 : List CE) (elt : CE)

/-- an int that may be multiplied, or divide -/
def lim : Nat := 2 ^ 8192
def sm (i : Int) : Prop := i.natAbs < lim
instance (i : Int) : Decidable (sm i) := by unfold sm; infer_instance
def line : Nat := 16777216

/- no list, no dict within -/
mutual
def nl : PyData → Bool
  | .list _ => false
  | .dict _ => false
  | .tuple xs => nlAll xs
  | _ => true
def nlAll : List PyData → Bool
  | [] => true
  | x :: xs => nl x && nlAll xs
end

def deref (S : Store) : PV → Option PyData
  | .d x => some x
  | .r n => match S[n]? with
    | some (.lst xs) => some (.list xs)
    | _ => none

def truD : PyData → Option Bool
  | .none => some false
  | .bool b => some b
  | .int i => some (i != 0)
  | .list xs => some (!xs.isEmpty)
  | .tuple xs => some (!xs.isEmpty)
  | _ => none

/-- the items of a list or tuple -/
def items : PyData → Option (List PyData)
  | .list xs => some xs
  | .tuple xs => some xs
  | _ => none

def binD (op : BOp) (a b : PyData) : Option PyData :=
  match a, b with
  | .int i, .int j => match op with
    | .add => some (.int (i + j))
    | .sub => some (.int (i - j))
    | .mul => if sm i ∧ sm j then some (.int (i * j)) else none
    | .fdiv => if j ≠ 0 ∧ sm j then some (.int (i.fdiv j)) else none
    | .mod => if j ≠ 0 then some (.int (i.fmod j)) else none
  | .list xs, .list ys => match op with
    | .add => if xs.length + ys.length ≤ line then some (.list (xs ++ ys)) else none
    | _ => none
  | .tuple xs, .tuple ys => match op with
    | .add => if xs.length + ys.length ≤ line then some (.tuple (xs ++ ys)) else none
    | _ => none
  | _, _ => none

mutual
/-- data of a form that == tells apart: no dict, no depth beyond 8 -/
def shp : Nat → PyData → Bool
  | _, .none => true
  | _, .bool _ => true
  | _, .int _ => true
  | _, .str x => PyData.strOk x
  | 0, _ => false
  | n + 1, .list xs => shpAll n xs
  | n + 1, .tuple xs => shpAll n xs
  | _, .dict _ => false
def shpAll : Nat → List PyData → Bool
  | _, [] => true
  | n, x :: xs => shp n x && shpAll n xs
end

def cmpD (op : COp) (a b : PyData) : Option Bool :=
  match op with
  | .eq => if shp 12 a && shp 12 b then some (PyData.eqv a b) else none
  | .ne => if shp 12 a && shp 12 b then some (!PyData.eqv a b) else none
  | .isN => match b with
    | .none => some (match a with | .none => true | _ => false)
    | .bool c => match a with
      | .bool d => some (decide (d = c))
      | _ => none
    | _ => none
  | .notN => match b with
    | .none => some (match a with | .none => false | _ => true)
    | .bool c => match a with
      | .bool d => some (!decide (d = c))
      | _ => none
    | _ => none
  | .isin => match items b with
    | some xs => if shp 12 a && shpAll 12 xs then some (xs.any fun y => PyData.eqv y a) else none
    | none => none
  | .notin => match items b with
    | some xs => if shp 12 a && shpAll 12 xs then some (!(xs.any fun y => PyData.eqv y a)) else none
    | none => none
  | .lt => match a, b with
    | .int i, .int j => some (decide (i < j))
    | _, _ => none
  | .le => match a, b with
    | .int i, .int j => some (decide (i ≤ j))
    | _, _ => none
  | .gt => match a, b with
    | .int i, .int j => some (decide (j < i))
    | _, _ => none
  | .ge => match a, b with
    | .int i, .int j => some (decide (j ≤ i))
    | _, _ => none

/-- the place that an index of any sign means -/
def ixN (n : Nat) (i : Int) : Option Nat := if 0 ≤ i then (if i < n then some i.toNat else none) else if -(n : Int) ≤ i then some (i + n).toNat else none
def sIx (n d : Nat) : Option Int → Nat
  | none => d
  | some v => if v < 0 then (v + (n : Int)).toNat else min v.toNat n
def cut {α : Type} (xs : List α) (lo hi : Option Int) : List α := (xs.drop (sIx xs.length 0 lo)).take (sIx xs.length xs.length hi - sIx xs.length 0 lo)

def intsOf : List PyData → Option (List Int)
  | [] => some []
  | .int i :: r => (intsOf r).map (i :: ·)
  | _ :: _ => none
/-- the ints of a tuple of ints -/
def intsD : PyData → Option (List Int)
  | .tuple xs => intsOf xs
  | _ => none
/-- the keys of pairs, that are tuples of ints -/
def keysOf : List PyData → Option (List (List Int))
  | [] => some []
  | .tuple [k, _] :: r => (intsD k).bind fun is => (keysOf r).map (is :: ·)
  | _ :: _ => none
/-- each one once, at its first place -/
def onceI (acc : List (List Int)) : List (List Int) → List (List Int)
  | [] => acc
  | k :: ks => onceI (if k ∈ acc then acc else acc ++ [k]) ks
def boolsOf : List PyData → Option (List Bool)
  | [] => some []
  | .bool i :: r => (boolsOf r).map (i :: ·)
  | _ :: _ => none
def maxI : List Int → Option Int
  | [] => none
  | x :: xs => some (xs.foldl (fun a b => if b > a then b else a) x)
def minI : List Int → Option Int
  | [] => none
  | x :: xs => some (xs.foldl (fun a b => if b < a then b else a) x)

/-- what can be told by repr -/
def rpOk (x : PyData) : Bool := x.showable && !x.hasDict && decide (x.depth ≤ 60) && decide (x.shown.length ≤ line)
/-- is what a built-in hands back a new object -/
def bfD (f : Bf) (args : List PyData) : Option PyData :=
  match f, args with
  | .len, [x] => (items x).map fun xs => .int xs.length
  | .abs, [.int i] => some (.int (if i < 0 then -i else i))
  | .int, [.int i] => some (.int i)
  | .int, [.bool b] => some (.int (if b then 1 else 0))
  | .mx, [.list xs] => (intsOf xs).bind fun is => (maxI is).map .int
  | .mn, [.list xs] => (intsOf xs).bind fun is => (minI is).map .int
  | .mx, [.int i, .int j] => some (.int (if j > i then j else i))
  | .mn, [.int i, .int j] => some (.int (if j < i then j else i))
  | .any, [.list xs] => (boolsOf xs).map fun bs => .bool (bs.any id)
  | .all, [.list xs] => (boolsOf xs).map fun bs => .bool (bs.all id)
  | .sum, [.list xs] => (intsOf xs).map fun is => .int is.sum
  | .tuple, [x] => (items x).map .tuple
  | .list, [x] => (items x).map .list
  | .repr, [.bool b] => some (.str (if b then "True" else "False"))
  | .repr, [.none] => some (.str "None")
  | .repr, [.dict []] => some (.str "{}")
  | .repr, [.str s] => if rpOk (.str s) then some (.str (PyData.shown (.str s))) else none
  | .repr, [.int i] => if rpOk (.int i) then some (.str (PyData.shown (.int i))) else none
  | .repr, [.list xs] => if rpOk (.list xs) then some (.str (PyData.shown (.list xs))) else none
  | .repr, [.tuple xs] => if rpOk (.tuple xs) then some (.str (PyData.shown (.tuple xs))) else none
  | .isInt, [x] => some (.bool (match x with | .int _ => true | .bool _ => true | _ => false))
  | .isBool, [x] => some (.bool (match x with | .bool _ => true | _ => false))
  | .isTup, [x] => some (.bool (match x with | .tuple _ => true | _ => false))
  | .isList, [x] => some (.bool (match x with | .list _ => true | _ => false))
  | .keys, [.list xs] => (keysOf xs).map fun ks => .list ((onceI [] ks).map fun is => .tuple (is.map .int))
  | _, _ => none

/- a target takes a value -/
mutual
def bd : Pat → PyData → Ev → Option Ev
  | .nm i, x, ρ => some (ρ.set i (some (.d x)))
  | .tup ps, .tuple xs, ρ => bds ps xs ρ
  | _, _, _ => none
def bds : List Pat → List PyData → Ev → Option Ev
  | [], [], ρ => some ρ
  | p :: ps, x :: xs, ρ => (bd p x ρ).bind (bds ps xs)
  | _, _, _ => none
end
def wipeE (ρ : Ev) : List Nat → Ev
  | [] => ρ
  | v :: vs => (wipeE ρ vs).set v none

/-- functions: the arguments (a reference is a place among the objects that were handed in), the objects; the value, whether it is a new object, the objects behind -/
abbrev Orc := Nat → List PV → List PO → Option (PyData × Bool × List PO)

def rangeL (lo hi : Int) : List PyData := (List.range (hi - lo).toNat).map fun k : Nat => .int (lo + k)
def enumL : Nat → List PyData → List PyData
  | _, [] => []
  | k, x :: xs => .tuple [.int k, x] :: enumL (k + 1) xs
def zipL3 : List PyData → List PyData → List PyData → List PyData
  | x :: xs, y :: ys, z :: zs => .tuple [x, y, z] :: zipL3 xs ys zs
  | _, _, _ => []
def zipL : List PyData → List PyData → List PyData
  | x :: xs, y :: ys => .tuple [x, y] :: zipL xs ys
  | _, _ => []

def derefs (S : Store) : List PV → Option (List PyData)
  | [] => some []
  | v :: vs => (deref S v).bind fun x => (derefs S vs).map (x :: ·)
def isRef : PV → Bool
  | .r _ => true
  | _ => false

def nlO : PO → Bool
  | .lst xs => nlAll xs
  | _ => true
/-- the arguments of a call that hands on the object n at place j: it alone by reference -/
def hands (S : Store) (j n : Nat) : Nat → List PV → Option (List PV)
  | _, [] => some []
  | k, v :: vs => (match v with
      | .r m => if m = n then (if k = j then some (PV.r 0) else none) else if k = j then none else (deref S (.r m)).map PV.d
      | .d x => if k = j then none else some (PV.d x)).bind fun w => (hands S j n (k + 1) vs).map (w :: ·)
/-- a call: the parameter at refp (if any) is handed by reference, all others by value; a list of the frame that is handed by value must not come back -/
def callC (C : Orc) (refp : Option Nat) (f : Nat) (vs : List PV) (S : Store) : Option (PyData × Bool × Store) :=
  match refp with
  | none => (derefs S vs).bind fun xs => (C f (xs.map .d) []).bind fun r =>
      if (vs.any isRef) && !nl r.1 then none else some (r.1, r.2.1, S)
  | some j => match vs[j]? with
    | some (.r n) => match S[n]? with
      | some o => (hands S j n 0 vs).bind fun as => (C f as [o]).bind fun r =>
          match r.2.2 with
          | [o'] => if ((vs.eraseIdx j).any isRef) && !(nl r.1 && nlO o') then none else some (r.1, r.2.1, S.set n o')
          | _ => none
      | none => none
    | _ => none

/-- does the expression make a new list -/
def isNew : CE → Bool
  | .lst _ => true
  | .comp .. => true
  | .comp2 .. => true
  | .bf .list _ => true
  | .bf .keys _ => true
  | .bin _ _ _ => true
  | .sl _ _ _ => true
  | .back _ => true
  | _ => false

structure Prm where
  refs : Nat → Option Nat
  C : Orc

/-- a method on a list of the store: its value, the list behind -/
def metD (m : Mt) (xs : List PyData) (args : List PyData) : Option (PyData × List PyData) :=
  match m, args with
  | .append, [x] => if xs.length < line then some (.none, xs ++ [x]) else none
  | .insert, [.int i, x] => if xs.length < line ∧ 0 ≤ i ∧ i < 2 ^ 63 then some (.none, xs.take i.toNat ++ [x] ++ xs.drop i.toNat) else none
  | .pop, [] => (xs.getLast?).map fun y => (y, xs.dropLast)
  | .remove, [y] => if shp 12 (.list xs) && shp 12 y then (xs.findIdx? fun z => PyData.eqv z y).map fun k => (.none, xs.eraseIdx k) else none
  | .popAt, [.int i] => if -(2 ^ 63) ≤ i ∧ i < 2 ^ 63 then (ixN xs.length i).bind fun k => (xs[k]?).map fun y => (y, xs.eraseIdx k) else none
  | _, _ => none

/-- a method of a list that is data -/
def metV (m : Mt) (x : PyData) (args : List PyData) : Option PyData :=
  match m, x, args with
  | .index, .list xs, [y] => if shp 12 (.list xs) && shp 12 y then (xs.findIdx? fun z => PyData.eqv z y).map fun j => .int (j : Nat) else none
  | _, _, _ => none
/-- by value -/
def op1 {β : Type} (ra : Option (PV × Store)) (f : PyData → Option β) : Option (β × Store) :=
  ra.bind fun r => (deref r.2 r.1).bind fun x => (f x).map fun z => (z, r.2)
/-- two operands, read behind both -/
def op2 {β : Type} (ra : Option (PV × Store)) (rb : Store → Option (PV × Store)) (f : PyData → PyData → Option β) : Option (β × Store) :=
  ra.bind fun r => (rb r.2).bind fun q => (deref q.2 r.1).bind fun x => (deref q.2 q.1).bind fun y => (f x y).map fun z => (z, q.2)
/-- data alone, no reference -/
def dt (r : Option (PV × Store)) : Option (PyData × Store) := r.bind fun r => match r.1 with
  | .d x => some (x, r.2)
  | .r _ => none
/-- a value that is data -/
def vd (r : Option (PyData × Store)) : Option (PV × Store) := r.map fun r => (.d r.1, r.2)
def vb (r : Option (Bool × Store)) : Option (PV × Store) := r.map fun r => (.d (.bool r.1), r.2)
def intD : PyData → Option Int
  | .int i => some i
  | _ => none
def part (r : Option (Int × Store)) : Option (Option Int × Store) := r.map fun q => (some q.1, q.2)
def ixD (a i : PyData) : Option PyData := match i with
  | .int k => (items a).bind fun xs => (ixN xs.length k).bind fun j => xs[j]?
  | _ => none
def slD (a : PyData) (lo hi : Option Int) : Option PyData := match a with
  | .list xs => some (.list (cut xs lo hi))
  | .tuple xs => some (.tuple (cut xs lo hi))
  | _ => none
def backD : PyData → Option PyData
  | .list xs => some (.list xs.reverse)
  | .tuple xs => some (.tuple xs.reverse)
  | _ => none
def rngD (a b : PyData) : Option (List PyData) := match a, b with
  | .int i, .int j => if -(2 ^ 62) ≤ i ∧ i < 2 ^ 62 ∧ -(2 ^ 62) ≤ j ∧ j < 2 ^ 62 then some (rangeL i j) else none
  | _, _ => none
/-- what is walked still stands: a list of the frame is walked by its reference -/
def still (v : PV) (xs : List PyData) (S : Store) : Prop :=
  match v with
  | .d _ => True
  | .r n => S[n]? = some (.lst xs)
/-- the walk of a comprehension: what each item gives -/
def cmpL (f : PyData → Store → Option (List PyData × Store)) : List PyData → Store → Option (List PyData × Store)
  | [], S => some ([], S)
  | x :: xs, S => (f x S).bind fun r => (cmpL f xs r.2).map fun q => (r.1 ++ q.1, q.2)
/-- what is walked: the items, and what must stand all the while -/
abbrev Its := List PyData × (Store → Prop)
def itV (r : Option (PV × Store)) : Option (Its × Store) := r.bind fun r => (deref r.2 r.1).bind fun x => (items x).map fun xs => ((xs, still r.1 xs), r.2)
def itE (r : Option (PV × Store)) : Option (Its × Store) := r.bind fun r => (deref r.2 r.1).bind fun x => (items x).map fun xs => ((enumL 0 xs, still r.1 xs), r.2)
def zipD (v w : PV) : PyData → PyData → Option Its
  | .list xs, .list ys => some (zipL xs ys, fun S => still v xs S ∧ still w ys S)
  | .tuple xs, .tuple ys => some (zipL xs ys, fun S => still v xs S ∧ still w ys S)
  | _, _ => none
def itZ (ra : Option (PV × Store)) (rb : Store → Option (PV × Store)) : Option (Its × Store) := ra.bind fun r => (rb r.2).bind fun q => (deref q.2 r.1).bind fun x => (deref q.2 q.1).bind fun y => (zipD r.1 q.1 x y).map fun t => (t, q.2)
def zipD3 (v w u : PV) : PyData → PyData → PyData → Option Its
  | .list xs, .list ys, .list zs => some (zipL3 xs ys zs, fun S => still v xs S ∧ still w ys S ∧ still u zs S)
  | _, _, _ => none
def itZ3 (ra : Option (PV × Store)) (rb rc : Store → Option (PV × Store)) : Option (Its × Store) := ra.bind fun r => (rb r.2).bind fun q => (rc q.2).bind fun t => (deref t.2 r.1).bind fun x => (deref t.2 q.1).bind fun y => (deref t.2 t.1).bind fun z => (zipD3 r.1 q.1 t.1 x y z).map fun w => (w, t.2)
def itR (ra : Option (PV × Store)) (rb : Store → Option (PV × Store)) : Option (Its × Store) := (op2 ra rb rngD).map fun r => ((r.1, fun _ => True), r.2)
open Classical in
/-- a comprehension's clause: the walk over the iterable's items, each turn from the same names -/
noncomputable def clause (r : Option (Its × Store)) (f : PyData → Store → Option (List PyData × Store)) : Option (List PyData × Store) :=
  r.bind fun r => (cmpL (fun y S => if r.1.2 S then f y S else none) r.1.1 r.2).bind fun q => if r.1.2 q.2 then some q else none
def inLine (r : Option (List PyData × Store)) : Option (PV × Store) := r.bind fun q => if q.1.length ≤ line then some (.d (.list q.1), q.2) else none
def isLst (S : Store) (n : Nat) : Bool := match S[n]? with
  | some (.lst _) => true
  | _ => false
def metS (m : Mt) (n : Nat) (xs : List PyData) (S : Store) : Option (PV × Store) := match S[n]? with
  | some (.lst ys) => (metD m ys xs).map fun z => (.d z.1, S.set n (.lst z.2))
  | _ => none

mutual
noncomputable def ev (P : Prm) : CE → Ev → Store → Option (PV × Store)
  | .var i, ρ, S => (ρ[i]?.bind id).map fun v => (v, S)
  | .cst x, _, S => some (.d x, S)
  | .tup es, ρ, S => (evs P es ρ S).bind fun r => if r.1.length ≤ line then some (.d (.tuple r.1), r.2) else none
  | .lst es, ρ, S => (evs P es ρ S).bind fun r => if r.1.length ≤ line then some (.d (.list r.1), r.2) else none
  | .star _, _, _ => none
  | .no, _, _ => none
  | .bin op a b, ρ, S => vd (op2 (ev P a ρ S) (ev P b ρ) (binD op))
  | .neg a, ρ, S => vd (op1 (ev P a ρ S) fun x => (intD x).map fun i => .int (-i))
  | .not a, ρ, S => vb (op1 (ev P a ρ S) fun x => (truD x).map fun b => !b)
  | .cmp op a b, ρ, S => vb (op2 (ev P a ρ S) (ev P b ρ) (cmpD op))
  | .chain op1 op2 a b c, ρ, S => (ev P a ρ S).bind fun r => (ev P b ρ r.2).bind fun q => (deref q.2 r.1).bind fun x => (deref q.2 q.1).bind fun y => (cmpD op1 x y).bind fun k =>
      if k = true then (ev P c ρ q.2).bind fun s => (deref s.2 q.1).bind fun y' => (deref s.2 s.1).bind fun z => (cmpD op2 y' z).map fun k => (.d (.bool k), s.2) else some (.d (.bool false), q.2)
  | .and a b, ρ, S => (ev P a ρ S).bind fun r => (deref r.2 r.1).bind fun x => (truD x).bind fun k => if k = true then ev P b ρ r.2 else some r
  | .or a b, ρ, S => (ev P a ρ S).bind fun r => (deref r.2 r.1).bind fun x => (truD x).bind fun k => if k = true then some r else ev P b ρ r.2
  | .ite c a b, ρ, S => (op1 (ev P c ρ S) truD).bind fun k => if k.1 = true then ev P a ρ k.2 else ev P b ρ k.2
  | .ix a i, ρ, S => vd (op2 (ev P a ρ S) (ev P i ρ) ixD)
  | .sl a lo hi, ρ, S => (ev P a ρ S).bind fun r =>
      (match lo with
        | .no => some (none, r.2)
        | _ => part (op1 (ev P lo ρ r.2) intD)).bind fun l =>
      (match hi with
        | .no => some (none, l.2)
        | _ => part (op1 (ev P hi ρ l.2) intD)).bind fun u => (deref u.2 r.1).bind fun x => (slD x l.1 u.1).map fun z => (.d z, u.2)
  | .back a, ρ, S => vd (op1 (ev P a ρ S) backD)
  | .call f es, ρ, S => (evp P es ρ S).bind fun r => (callC P.C (P.refs f) f r.1 r.2).map fun q => (.d q.1, q.2.2)
  | .bf f es, ρ, S => (evp P es ρ S).bind fun r => (derefs r.2 r.1).bind fun xs => (bfD f xs).map fun x => (.d x, r.2)
  | .met m o es, ρ, S => (ev P o ρ S).bind fun r => match r.1 with
    | .r n => if isLst r.2 n = true then (evs P es ρ r.2).bind fun q => metS m n q.1 q.2 else none
    | .d x => (evs P es ρ r.2).bind fun q => (metV m x q.1).map fun z => (.d z, q.2)
  | .rng _ _, _, _ => none
  | .enm _, _, _ => none
  | .zip _ _, _, _ => none
  | .zip3 _ _ _, _, _ => none
  | .comp own p it ifs elt, ρ, S => inLine (clause (match it with
      | .enm a => itE (ev P a ρ S)
      | .zip a b => itZ (ev P a ρ S) (ev P b ρ)
      | .zip3 a b c => itZ3 (ev P a ρ S) (ev P b ρ) (ev P c ρ)
      | .rng a b => itR (ev P a ρ S) (ev P b ρ)
      | it => itV (ev P it ρ S)) fun x S => (bd p x (wipeE ρ own)).bind fun ρ1 => (evt P ifs ρ1 S).bind fun c =>
      if c.1 = true then (dt (ev P elt ρ1 c.2)).map fun y => ([y.1], y.2) else some ([], c.2))
  | .comp2 own p it ifs p2 own2 it2 ifs2 elt, ρ, S => inLine (clause (match it with
      | .enm a => itE (ev P a ρ S)
      | .zip a b => itZ (ev P a ρ S) (ev P b ρ)
      | .zip3 a b c => itZ3 (ev P a ρ S) (ev P b ρ) (ev P c ρ)
      | .rng a b => itR (ev P a ρ S) (ev P b ρ)
      | it => itV (ev P it ρ S)) fun x S => (bd p x (wipeE ρ own)).bind fun ρ1 => (evt P ifs ρ1 S).bind fun c =>
      if c.1 = true then clause (match it2 with
        | .enm a => itE (ev P a ρ1 c.2)
        | .zip a b => itZ (ev P a ρ1 c.2) (ev P b ρ1)
        | .zip3 a b d => itZ3 (ev P a ρ1 c.2) (ev P b ρ1) (ev P d ρ1)
        | .rng a b => itR (ev P a ρ1 c.2) (ev P b ρ1)
        | it => itV (ev P it ρ1 c.2)) fun x2 S => (bd p2 x2 (wipeE ρ1 own2)).bind fun ρ2 => (evt P ifs2 ρ2 S).bind fun c2 =>
        if c2.1 = true then (dt (ev P elt ρ2 c2.2)).map fun y => ([y.1], y.2) else some ([], c2.2)
      else some ([], c.2))
/-- items of a display, data all -/
noncomputable def evs (P : Prm) : List CE → Ev → Store → Option (List PyData × Store)
  | [], _, S => some ([], S)
  | e :: es, ρ, S => match e with
    | .star a => (op1 (ev P a ρ S) items).bind fun r => (evs P es ρ r.2).map fun q => (r.1 ++ q.1, q.2)
    | e => (dt (ev P e ρ S)).bind fun r => (evs P es ρ r.2).map fun q => (r.1 :: q.1, q.2)
/-- arguments -/
noncomputable def evp (P : Prm) : List CE → Ev → Store → Option (List PV × Store)
  | [], _, S => some ([], S)
  | e :: es, ρ, S => (ev P e ρ S).bind fun r => (evp P es ρ r.2).map fun q => (r.1 :: q.1, q.2)
/-- a clause's tests -/
noncomputable def evt (P : Prm) : List CE → Ev → Store → Option (Bool × Store)
  | [], _, S => some (true, S)
  | e :: es, ρ, S => (op1 (ev P e ρ S) truD).bind fun k => if k.1 = true then evt P es ρ k.2 else some (false, k.2)
end

/-- an iterable -/
noncomputable def evi (P : Prm) (it : CE) (ρ : Ev) (S : Store) : Option (Its × Store) := match it with
  | .enm a => itE (ev P a ρ S)
  | .zip a b => itZ (ev P a ρ S) (ev P b ρ)
  | .zip3 a b c => itZ3 (ev P a ρ S) (ev P b ρ) (ev P c ρ)
  | .rng a b => itR (ev P a ρ S) (ev P b ρ)
  | it => itV (ev P it ρ S)
/-- a turn of a comprehension -/
noncomputable def turnC (P : Prm) (own : List Nat) (p : Pat) (ifs : List CE) (f : Ev → Store → Option (List PyData × Store)) (ρ : Ev) (x : PyData) (S : Store) : Option (List PyData × Store) :=
  (bd p x (wipeE ρ own)).bind fun ρ1 => (evt P ifs ρ1 S).bind fun c => if c.1 = true then f ρ1 c.2 else some ([], c.2)
noncomputable def eltC (P : Prm) (elt : CE) (ρ : Ev) (S : Store) : Option (List PyData × Store) := (dt (ev P elt ρ S)).map fun y => ([y.1], y.2)
theorem ev_comp (P : Prm) (own : List Nat) (p : Pat) (it : CE) (ifs : List CE) (elt : CE) (ρ : Ev) (S : Store) :
    ev P (.comp own p it ifs elt) ρ S = inLine (clause (evi P it ρ S) (turnC P own p ifs (eltC P elt) ρ)) := by
  cases it <;> rfl
theorem ev_comp2 (P : Prm) (own : List Nat) (p : Pat) (it : CE) (ifs : List CE) (p2 : Pat) (own2 : List Nat) (it2 : CE) (ifs2 : List CE) (elt : CE) (ρ : Ev) (S : Store) :
    ev P (.comp2 own p it ifs p2 own2 it2 ifs2 elt) ρ S = inLine (clause (evi P it ρ S) (turnC P own p ifs (fun ρ1 S => clause (evi P it2 ρ1 S) (turnC P own2 p2 ifs2 (eltC P elt) ρ1)) ρ)) := by
  cases it <;> cases it2 <;> rfl

/-! statements -/
inductive CS where
  | expr (e : CE)
  | asg (p : Pat) (e : CE)
  | alloc (i : Nat) (e : CE)
  | opn (i : Nat) (e : CE)
  | par (is : List Nat) (es : List (Bool × CE))
  | aug (i : Nat) (op : BOp) (e : CE)
  | setIx (o i e : CE)
  | sif (c : CE) (a b : List CS)
  | sfor (p : Pat) (it : CE) (body : List CS)
  | swhile (c : CE) (body : List CS)
  | ret (e : CE)
  | brk | cnt | pass
inductive Fl where
  | nx (ρ : Ev) (S : Store)
  | rt (x : PyData) (new : Bool) (S : Store)
  | bk (ρ : Ev) (S : Store)
  | ct (ρ : Ev) (S : Store)

section
variable {α β : Type}
def iter (f : α → Option (α ⊕ β)) : Nat → α → Option β
  | 0, _ => none
  | n + 1, a => match f a with
    | none => none
    | some (.inr b) => some b
    | some (.inl a') => iter f n a'
open Classical in
noncomputable def loop (f : α → Option (α ⊕ β)) (a : α) : Option β := if h : ∃ n, (iter f n a).isSome = true then iter f (Classical.choose h) a else none
theorem iter_mono {f : α → Option (α ⊕ β)} : ∀ {n m : Nat} {a : α} {b : β}, iter f n a = some b → n ≤ m → iter f m a = some b
  | 0, _, _, _, h, _ => by simp [iter] at h
  | n + 1, 0, _, _, _, h => by omega
  | n + 1, m + 1, a, b, h, hm => by
    unfold iter at h ⊢
    cases e : f a with
    | none => rw [e] at h; simp at h
    | some r =>
      rw [e] at h
      cases r with
      | inr c => exact h
      | inl a' => exact iter_mono h (by omega)
theorem loop_of {f : α → Option (α ⊕ β)} {n : Nat} {a : α} {b : β} (h : iter f n a = some b) : loop f a = some b := by
  unfold loop
  have hx : ∃ n, (iter f n a).isSome = true := ⟨n, by rw [h]; rfl⟩
  rw [dif_pos hx]
  have h1 := Classical.choose_spec hx
  cases e : iter f (Classical.choose hx) a with
  | none => rw [e] at h1; simp at h1
  | some c =>
    have h2 := iter_mono e (Nat.le_max_left (Classical.choose hx) n)
    have h3 := iter_mono h (Nat.le_max_right (Classical.choose hx) n)
    rw [h2] at h3
    exact h3
theorem of_loop {f : α → Option (α ⊕ β)} {a : α} {b : β} (h : loop f a = some b) : ∃ n, iter f n a = some b := by
  unfold loop at h
  split at h
  · exact ⟨_, h⟩
  · cases h
theorem loop_end {f : α → Option (α ⊕ β)} {a : α} {b : β} (h : f a = some (.inr b)) : loop f a = some b := loop_of (n := 1) (by unfold iter; rw [h])
theorem loop_go {f : α → Option (α ⊕ β)} {a a' : α} (h : f a = some (.inl a')) : loop f a = loop f a' := by
  cases e : loop f a' with
  | some b =>
    obtain ⟨n, hn⟩ := of_loop e
    exact loop_of (n := n + 1) (by unfold iter; rw [h]; exact hn)
  | none =>
    cases e' : loop f a with
    | none => rfl
    | some b =>
      obtain ⟨n, hn⟩ := of_loop e'
      cases n with
      | zero => simp [iter] at hn
      | succ n =>
        unfold iter at hn
        rw [h] at hn
        rw [loop_of hn] at e
        cases e
end

open Classical in
/-- for: the items one by one; g: what must stand all the while -/
noncomputable def forL (g : Store → Prop) (f : PyData → Ev → Store → Option Fl) : List PyData → Ev → Store → Option Fl
  | [], ρ, S => if g S then some (.nx ρ S) else none
  | x :: xs, ρ, S => if g S then (f x ρ S).bind fun r => match r with
    | .nx ρ' S' => forL g f xs ρ' S'
    | .ct ρ' S' => forL g f xs ρ' S'
    | .bk ρ' S' => some (.nx ρ' S')
    | .rt x n S' => some (.rt x n S')
    else none
/-- all lists of the frame (behind the first n0) as data -/
def frzV (n0 : Nat) (S : Store) : Option PV → Option PV
  | some (.r n) => if n < n0 then some (.r n) else match S[n]? with
    | some (.lst xs) => some (.d (.list xs))
    | _ => none
  | v => v
def frz (n0 : Nat) (ρ : Ev) (S : Store) : Ev := ρ.map (frzV n0 S)

/-- names take values, one by one -/
def setAll : List Nat → List PV → Ev → Option Ev
  | [], [], ρ => some ρ
  | i :: is, v :: vs, ρ => setAll is vs (ρ.set i (some v))
  | _, _, _ => none
/-- the value of an expression, and whether it is a new list -/
noncomputable def evn (P : Prm) (e : CE) (ρ : Ev) (S : Store) : Option ((PV × Bool) × Store) :=
  match e with
  | .call f es => (evp P es ρ S).bind fun r => (callC P.C (P.refs f) f r.1 r.2).map fun q => ((.d q.1, q.2.1), q.2.2)
  | e => (ev P e ρ S).map fun r => ((r.1, isNew e), r.2)
/-- a new list becomes the frame's own -/
def own (r : Option ((PV × Bool) × Store)) : Option (PV × Store) := r.bind fun r => match r.1 with
  | (.d (.list xs), true) => some (.r r.2.length, r.2 ++ [.lst xs])
  | _ => none
noncomputable def evns (P : Prm) : List (Bool × CE) → Ev → Store → Option (List PV × Store)
  | [], _, S => some ([], S)
  | (true, e) :: es, ρ, S => (own (evn P e ρ S)).bind fun r => (evns P es ρ r.2).map fun q => (r.1 :: q.1, q.2)
  | (false, e) :: es, ρ, S => (ev P e ρ S).bind fun r => (evns P es ρ r.2).map fun q => (r.1 :: q.1, q.2)

/-- the laws' source of drawn numbers: the cells that are left (the next one first), what is left of the last one, a seed, the turns behind the cells -/
def stir (cells : List Int) : Int := cells.foldl (fun s c => (s * 69069 + c * 31 + 5).fmod 2147483629) 11
def openS (cells : List Int) : PO := .src (cells.map fun c => if c < 0 then -c else c) 1 (stir cells) 0
def drain : List Int → Int → List Int × Int
  | [], l => ([], l)
  | c :: cs, l => if l < 2 then drain cs c else (c :: cs, l)
def pickF (most : Int) : PO → Option (Int × PO)
  | .lst _ => none
  | .src cells left mixed turn =>
    if most < 2 then some (0, .src cells left mixed turn)
    else if (drain cells left).2 > 1 then (if most < 1048576 then some ((drain cells left).2.fmod most, .src (drain cells left).1 ((drain cells left).2.fdiv most) mixed turn) else none)
    else if most < 1048576 then some ((((((mixed + (turn + 1) * 104729).fmod 998244353 * (mixed + (turn + 1) * 104729).fmod 998244353 + (turn + 1) * 17).fmod 2147483647).fdiv 16).fmod most), .src (drain cells left).1 (drain cells left).2 mixed (turn + 1)) else none

section
open Classical
mutual
noncomputable def sx (P : Prm) (n0 : Nat) : CS → Ev → Store → Option Fl
  | .expr e, ρ, S => (ev P e ρ S).map fun r => .nx ρ r.2
  | .asg p e, ρ, S => (ev P e ρ S).bind fun r => match p, r.1 with
    | .nm i, v => some (.nx (ρ.set i (some v)) r.2)
    | p, .d x => (bd p x ρ).map fun ρ' => .nx ρ' r.2
    | _, _ => none
  | .alloc i e, ρ, S => (own (evn P e ρ S)).map fun r => .nx (ρ.set i (some r.1)) r.2
  | .opn i e, ρ, S => (op1 (ev P e ρ S) fun x => match x with
    | .list xs => (intsOf xs).bind fun is => if is.length ≤ 1000 then some is else none
    | _ => none).map fun r => .nx (ρ.set i (some (.r r.2.length))) (r.2 ++ [openS r.1])
  | .par is es, ρ, S => (evns P es ρ S).bind fun r => (setAll is r.1 ρ).map fun ρ' => .nx ρ' r.2
  | .aug i op e, ρ, S => (op2 ((ρ[i]?.bind id).map fun v => (v, S)) (ev P e ρ) fun x y => match x, y with
    | .int _, .int _ => binD op x y
    | _, _ => none).map fun r => .nx (ρ.set i (some (.d r.1))) r.2
  | .setIx o i e, ρ, S => (dt (ev P e ρ S)).bind fun v => (ev P o ρ v.2).bind fun r => match r.1 with
    | .r n => (op1 (ev P i ρ r.2) intD).bind fun q => match q.2[n]? with
      | some (.lst xs) => (ixN xs.length q.1).map fun j => .nx ρ (q.2.set n (.lst (xs.set j v.1)))
      | _ => none
    | .d _ => none
  | .sif c a b, ρ, S => (op1 (ev P c ρ S) truD).bind fun k => if k.1 = true then sxs P n0 a ρ k.2 else sxs P n0 b ρ k.2
  | .sfor p it body, ρ, S => (evi P it ρ S).bind fun r => forL r.1.2 (fun y ρ S => (bd p y ρ).bind fun ρ1 => sxs P n0 body ρ1 S) r.1.1 ρ r.2
  | .swhile c body, ρ, S => loop (fun q : Ev × Store => (op1 (ev P c q.1 q.2) truD).bind fun r =>
      if r.1 = true then (sxs P n0 body q.1 r.2).map fun fl => match fl with
        | .nx ρ' S' => .inl (ρ', S')
        | .ct ρ' S' => .inl (ρ', S')
        | .bk ρ' S' => .inr (.nx ρ' S')
        | .rt x n S' => .inr (.rt x n S')
      else some (.inr (Fl.nx q.1 r.2))) (ρ, S)
  | .ret e, ρ, S => match e with
    | .var i => (ρ[i]?.bind id).bind fun v => match v with
      | .d x => some (.rt x false (S.take n0))
      | .r n => if n < n0 then none else (deref S (.r n)).map fun x => .rt x true (S.take n0)
    | e => (evn P e (frz n0 ρ S) (S.take n0)).bind fun r => match r.1.1 with
      | .d x => if r.2.length = n0 then some (.rt x r.1.2 r.2) else none
      | _ => none
  | .brk, ρ, S => some (.bk ρ S)
  | .cnt, ρ, S => some (.ct ρ S)
  | .pass, ρ, S => some (.nx ρ S)
noncomputable def sxs (P : Prm) (n0 : Nat) : List CS → Ev → Store → Option Fl
  | [], ρ, S => some (.nx ρ S)
  | s :: ss, ρ, S => (sx P n0 s ρ S).bind fun fl => match fl with
    | .nx ρ' S' => sxs P n0 ss ρ' S'
    | fl => some fl
end
end

/-- a def: how many parameters, how many names, its body -/
structure Fn where
  params : Nat
  names : Nat
  body : List CS
abbrev Pg := Nat → Option Fn
noncomputable def runFn (P : Prm) (f : Fn) (args : List PV) (objs : List PO) : Option (PyData × Bool × List PO) :=
  if args.length = f.params then
    (sxs P objs.length f.body (args.map some ++ List.replicate (f.names - f.params) none) objs).bind fun fl => match fl with
      | .rt x n S => some (x, n, S)
      | .nx _ S => some (.none, false, S.take objs.length)
      | _ => none
  else none
/-- the program to a depth of calls; pr: what is no def of the program's -/
noncomputable def orc (pr : Orc) (pg : Pg) (refs : Nat → Option Nat) : Nat → Orc
  | 0 => fun _ _ _ => none
  | d + 1 => fun f args objs => match pg f with
    | some fn => runFn ⟨refs, orc pr pg refs d⟩ fn args objs
    | none => pr f args objs
end Cr

/-! ## CrB -/
set_option Elab.async false
set_option linter.all false
set_option autoImplicit false
set_option maxRecDepth 100000
set_option maxHeartbeats 4000000
/-! CrB: what the evaluator's data and store mean in the model, and what changes leave of it. -/
namespace Cr
open PySem L2

abbrev Fg := PySem.W.Frag
/-- a list, a tuple of the written part -/
def KL (K : Fg) (a : Addr) (xs : List V) : Prop :=
  ∃ (o : Obj) (its : Array Value) (n : Nat), K.lookup a = some o ∧ o.cls = .type "list" ∧ o.dict = none ∧ o.data = .seq its n ∧ its.size ≤ sizeLine ∧ Vals xs its.toList
def KT (K : Fg) (a : Addr) (xs : List V) : Prop :=
  ∃ (o : Obj) (its : Array Value) (n : Nat), K.lookup a = some o ∧ o.cls = .type "tuple" ∧ o.data = .seq its n ∧ its.size ≤ sizeLine ∧ Vals xs its.toList

abbrev FS := Addr → Prop
mutual
def RD (K : Fg) (F : FS) (H : Hp) : PyData → V → Prop
  | .none, v => v = .non
  | .bool b, v => v = .bl b
  | .int i, v => v = .int i
  | .str s, v => v = .str s
  | .tuple xs, v => ∃ a vs, v = .ref a ∧ ((¬ F a ∧ Rd H a (.tup vs)) ∨ KT K a vs) ∧ RDs K F H xs vs
  | .list xs, v => ∃ a vs, v = .ref a ∧ ((¬ F a ∧ Rd H a (.lst vs)) ∨ KL K a vs) ∧ RDs K F H xs vs
  | .dict kvs, v => kvs = [] ∧ ∃ a, v = .ref a ∧ ¬ F a ∧ Rd H a (.dK [])
def RDs (K : Fg) (F : FS) (H : Hp) : List PyData → List V → Prop
  | [], vs => vs = []
  | x :: xs, vs => ∃ v r, vs = v :: r ∧ RD K F H x v ∧ RDs K F H xs r
end

/-- where a store's objects stand: the object, and what it holds besides that may change -/
abbrev Phi := List (Addr × Option Addr)
def ads (φ : Phi) : List Addr := φ.flatMap fun p => p.1 :: p.2.toList
theorem ads_append (φ ψ : Phi) : ads (φ ++ ψ) = ads φ ++ ads ψ := by simp [ads]
theorem mem_ads {φ : Phi} {p : Addr × Option Addr} (h : p ∈ φ) : p.1 ∈ ads φ := List.mem_flatMap.mpr ⟨p, h, List.mem_cons_self⟩

def srcKeys (c : Addr) (left mixed turn : Int) : List (Key × V) :=
  [(.inr "cells", .ref c), (.inr "left", .int left), (.inr "mixed", .int mixed), (.inr "turn", .int turn)]
def RO (K : Fg) (F : FS) (H : Hp) (p : Addr × Option Addr) : PO → Prop
  | .lst xs => p.2 = none ∧ ∃ vs, H p.1 = some (.lst vs) ∧ RDs K F H xs vs
  | .src cells left mixed turn => ∃ c, p.2 = some c ∧ H p.1 = some (.dK (srcKeys c left mixed turn)) ∧ H c = some (.lst (cells.map V.int).reverse)

def RP (K : Fg) (φ : Phi) (F : FS) (H : Hp) : PV → V → Prop
  | .d x, v => RD K F H x v
  | .r n, v => ∃ p, φ[n]? = some p ∧ v = .ref p.1

structure Rl (K : Fg) (φ : Phi) (F : FS) (S : Store) (H : Hp) : Prop where
  len : φ.length = S.length
  nd : (ads φ).Nodup
  inF : ∀ a ∈ ads φ, F a
  dom : ∀ a, F a → H a ≠ none
  obj : ∀ (n : Nat) (o : PO), S[n]? = some o → ∃ p, φ[n]? = some p ∧ RO K F H p o
structure Re (K : Fg) (φ : Phi) (F : FS) (H : Hp) (ρ : Ev) (σ : St) : Prop where
  len : ρ.length = σ.length
  get : ∀ (i : Nat) (pv : PV), ρ[i]? = some (some pv) → ∃ v, σ[i]? = some (some v) ∧ RP K φ F H pv v

structure Stp (φ : Phi) (F : FS) (H : Hp) (φ' : Phi) (F' : FS) (H' : Hp) : Prop where
  more : ∃ ψ, φ' = φ ++ ψ ∧ ∀ a ∈ ads ψ, H a = none
  fF : ∀ a, F a → F' a
  nF : ∀ a, F' a → ¬ F a → H a = none
  keep : ∀ a o, a ∉ ads φ → H a = some o → H' a = some o
  dom : ∀ a, H a ≠ none → H' a ≠ none

section
variable {K : Fg} {φ φ1 φ2 : Phi} {F F1 F2 : FS} {H H1 H2 : Hp} {S S1 : Store}
theorem Stp.refl : Stp φ F H φ F H := ⟨⟨[], by simp, by simp [ads]⟩, fun _ h => h, fun _ h n => absurd h n, fun _ _ _ h => h, fun _ h => h⟩
theorem Stp.trans (a : Stp φ F H φ1 F1 H1) (b : Stp φ1 F1 H1 φ2 F2 H2) : Stp φ F H φ2 F2 H2 := by
  obtain ⟨ψ1, e1, n1⟩ := a.more
  obtain ⟨ψ2, e2, n2⟩ := b.more
  have back : ∀ c, H1 c = none → H c = none := fun c h => by
    cases q : H c with
    | none => rfl
    | some o => exact absurd h (a.dom c (by rw [q]; simp))
  refine ⟨⟨ψ1 ++ ψ2, by rw [e2, e1, List.append_assoc], fun c hc => ?_⟩, fun c h => b.fF c (a.fF c h), fun c h n => ?_, fun c o hn h => ?_, fun c h => b.dom c (a.dom c h)⟩
  · rw [ads_append] at hc
    rcases List.mem_append.mp hc with hc | hc
    · exact n1 c hc
    · exact back c (n2 c hc)
  · by_cases h1 : F1 c
    · exact a.nF c h1 n
    · exact back c (b.nF c h h1)
  · refine b.keep c o ?_ (a.keep c o hn h)
    rw [e1, ads_append]
    intro hc
    rcases List.mem_append.mp hc with hc | hc
    · exact hn hc
    · rw [n1 c hc] at h; cases h
theorem rd_keep {a : Addr} {u : HO} (r : Rd H a u) (k : ∀ o, H a = some o → H1 a = some o) : Rd H1 a u := by
  rcases r with r | ⟨o, r⟩
  · exact .inl (k _ r)
  · exact .inr ⟨o, k _ r⟩
theorem rd_some {a : Addr} {u : HO} (r : Rd H a u) : H a ≠ none := by
  rcases r with r | ⟨o, r⟩ <;> rw [r] <;> simp
/-- what may be told of a tracked thing behind a step -/
theorem Stp.rd (st : Stp φ F H φ1 F1 H1) (hin : ∀ a ∈ ads φ, F a) {a : Addr} {u : HO} (n : ¬ F a) (r : Rd H a u) : ¬ F1 a ∧ Rd H1 a u :=
  ⟨fun h => rd_some r (st.nF a h n), rd_keep r fun o h => st.keep a o (fun hc => n (hin a hc)) h⟩
mutual
theorem RD.step (st : Stp φ F H φ1 F1 H1) (hin : ∀ a ∈ ads φ, F a) : ∀ {x : PyData} {v : V}, RD K F H x v → RD K F1 H1 x v
  | .none, _, h => h
  | .bool _, _, h => h
  | .int _, _, h => h
  | .str _, _, h => h
  | .tuple xs, v, h => by
    unfold RD at h ⊢
    obtain ⟨a, vs, e, h1, h2⟩ := h
    refine ⟨a, vs, e, ?_, RDs.step st hin h2⟩
    rcases h1 with ⟨n, r⟩ | h1
    · exact .inl (st.rd hin n r)
    · exact .inr h1
  | .list xs, v, h => by
    unfold RD at h ⊢
    obtain ⟨a, vs, e, h1, h2⟩ := h
    refine ⟨a, vs, e, ?_, RDs.step st hin h2⟩
    rcases h1 with ⟨n, r⟩ | h1
    · exact .inl (st.rd hin n r)
    · exact .inr h1
  | .dict _, _, h => by
    unfold RD at h ⊢
    obtain ⟨e0, a, e, n, r⟩ := h
    obtain ⟨n2, r2⟩ := st.rd hin n r
    exact ⟨e0, a, e, n2, r2⟩
theorem RDs.step (st : Stp φ F H φ1 F1 H1) (hin : ∀ a ∈ ads φ, F a) : ∀ {xs : List PyData} {vs : List V}, RDs K F H xs vs → RDs K F1 H1 xs vs
  | [], _, h => by unfold RDs at h ⊢; exact h
  | x :: xs, _, h => by
    unfold RDs at h ⊢
    obtain ⟨v, r, e, h1, h2⟩ := h
    exact ⟨v, r, e, RD.step st hin h1, RDs.step st hin h2⟩
end
theorem RP.step (st : Stp φ F H φ1 F1 H1) (hl : Rl K φ F S H) {pv : PV} {v : V} (h : RP K φ F H pv v) : RP K φ1 F1 H1 pv v := by
  cases pv with
  | d x => exact RD.step st hl.inF h
  | r n =>
    obtain ⟨p, e, q⟩ := h
    obtain ⟨ψ, e1, _⟩ := st.more
    refine ⟨p, ?_, q⟩
    rw [e1, List.getElem?_append_left]
    · exact e
    · exact (List.getElem?_eq_some_iff.mp e).1
theorem Re.step (st : Stp φ F H φ1 F1 H1) (hl : Rl K φ F S H) {ρ : Ev} {σ : St} (h : Re K φ F H ρ σ) : Re K φ1 F1 H1 ρ σ := ⟨h.len, fun i pv e =>
  let ⟨v, e1, r⟩ := h.get i pv e
  ⟨v, e1, r.step st hl⟩⟩
theorem Re.set {ρ : Ev} {σ : St} (h : Re K φ F H ρ σ) {pv : PV} {v : V} (i : Nat) (r : RP K φ F H pv v) : Re K φ F H (ρ.set i (some pv)) (σ.set i (some v)) := by
  refine ⟨by rw [List.length_set, List.length_set]; exact h.len, fun j qv e => ?_⟩
  by_cases hj : i = j
  · subst hj
    by_cases hi : i < ρ.length
    · rw [List.getElem?_set_self hi] at e
      cases e
      exact ⟨v, by rw [List.getElem?_set_self (by rw [← h.len]; exact hi)], r⟩
    · rw [List.getElem?_eq_none (by simpa using hi)] at e; cases e
  · rw [List.getElem?_set_ne hj] at e
    obtain ⟨w, e1, q⟩ := h.get j qv e
    exact ⟨w, by rw [List.getElem?_set_ne hj]; exact e1, q⟩
theorem Re.wipe {ρ : Ev} {σ : St} (h : Re K φ F H ρ σ) : ∀ vs : List Nat, Re K φ F H (wipeE ρ vs) (wipe σ vs)
  | [] => h
  | v :: vs => by
    have ih := Re.wipe h vs
    unfold wipeE L2.wipe
    refine ⟨by rw [List.length_set, List.length_set]; exact ih.len, fun j qv e => ?_⟩
    by_cases hj : v = j
    · subst hj
      by_cases hi : v < (wipeE ρ vs).length
      · rw [List.getElem?_set_self hi] at e; cases e
      · rw [List.getElem?_eq_none (by simpa using hi)] at e; cases e
    · rw [List.getElem?_set_ne hj] at e
      obtain ⟨w, e1, q⟩ := ih.get j qv e
      exact ⟨w, by rw [List.getElem?_set_ne hj]; exact e1, q⟩
theorem RDs.length : ∀ {xs : List PyData} {vs : List V}, RDs K F H xs vs → xs.length = vs.length
  | [], _, h => by unfold RDs at h; rw [h]; rfl
  | x :: xs, _, h => by
    unfold RDs at h
    obtain ⟨v, r, rfl, _, h2⟩ := h
    rw [List.length_cons, List.length_cons, RDs.length h2]
theorem RDs.get : ∀ {xs : List PyData} {vs : List V} {i : Nat} {x : PyData}, RDs K F H xs vs → xs[i]? = some x → ∃ v, vs[i]? = some v ∧ RD K F H x v
  | [], _, i, _, _, e => by simp at e
  | y :: xs, _, 0, x, h, e => by
    unfold RDs at h
    obtain ⟨v, r, rfl, h1, _⟩ := h
    simp at e; subst e
    exact ⟨v, rfl, h1⟩
  | y :: xs, _, i + 1, x, h, e => by
    unfold RDs at h
    obtain ⟨v, r, rfl, _, h2⟩ := h
    simp at e
    obtain ⟨w, e1, q⟩ := RDs.get h2 e
    exact ⟨w, by simpa using e1, q⟩
theorem RDs.append : ∀ {xs ys : List PyData} {vs ws : List V}, RDs K F H xs vs → RDs K F H ys ws → RDs K F H (xs ++ ys) (vs ++ ws)
  | [], _, _, _, h, h' => by unfold RDs at h; rw [h]; exact h'
  | x :: xs, _, _, _, h, h' => by
    unfold RDs at h
    obtain ⟨v, r, rfl, h1, h2⟩ := h
    rw [List.cons_append, List.cons_append]
    unfold RDs
    exact ⟨v, _, rfl, h1, RDs.append h2 h'⟩
theorem RDs.nil : RDs K F H [] [] := by unfold RDs; rfl
theorem RDs.cons {x : PyData} {xs : List PyData} {v : V} {vs : List V} (h : RD K F H x v) (h' : RDs K F H xs vs) : RDs K F H (x :: xs) (v :: vs) := by
  unfold RDs; exact ⟨v, vs, rfl, h, h'⟩
theorem RDs.take : ∀ {xs : List PyData} {vs : List V} (n : Nat), RDs K F H xs vs → RDs K F H (xs.take n) (vs.take n)
  | xs, vs, 0, _ => by simp; exact .nil
  | [], _, n + 1, h => by unfold RDs at h; rw [h]; simp; exact .nil
  | x :: xs, _, n + 1, h => by
    unfold RDs at h
    obtain ⟨v, r, rfl, h1, h2⟩ := h
    rw [List.take_succ_cons, List.take_succ_cons]
    exact .cons h1 (RDs.take n h2)
theorem RDs.drop : ∀ {xs : List PyData} {vs : List V} (n : Nat), RDs K F H xs vs → RDs K F H (xs.drop n) (vs.drop n)
  | xs, vs, 0, h => by simpa using h
  | [], _, n + 1, h => by unfold RDs at h; rw [h]; simp; exact .nil
  | x :: xs, _, n + 1, h => by
    unfold RDs at h
    obtain ⟨v, r, rfl, h1, h2⟩ := h
    rw [List.drop_succ_cons, List.drop_succ_cons]
    exact RDs.drop n h2
theorem RDs.reverse : ∀ {xs : List PyData} {vs : List V}, RDs K F H xs vs → RDs K F H xs.reverse vs.reverse
  | [], _, h => by unfold RDs at h; rw [h]; simp; exact .nil
  | x :: xs, _, h => by
    unfold RDs at h
    obtain ⟨v, r, rfl, h1, h2⟩ := h
    rw [List.reverse_cons, List.reverse_cons]
    exact (RDs.reverse h2).append (.cons h1 .nil)
theorem RDs.set : ∀ {xs : List PyData} {vs : List V} {x : PyData} {v : V} (i : Nat), RDs K F H xs vs → RD K F H x v → RDs K F H (xs.set i x) (vs.set i v)
  | [], _, _, _, _, h, _ => by unfold RDs at h; rw [h]; simp; exact .nil
  | y :: xs, _, x, v, 0, h, hx => by
    unfold RDs at h
    obtain ⟨w, r, rfl, h1, h2⟩ := h
    exact .cons hx h2
  | y :: xs, _, x, v, i + 1, h, hx => by
    unfold RDs at h
    obtain ⟨w, r, rfl, h1, h2⟩ := h
    exact .cons h1 (RDs.set i h2 hx)
theorem RDs.dropLast {xs : List PyData} {vs : List V} (h : RDs K F H xs vs) : RDs K F H xs.dropLast vs.dropLast := by
  rw [List.dropLast_eq_take, List.dropLast_eq_take, h.length]
  exact h.take _
theorem RDs.eraseIdx : ∀ {xs : List PyData} {vs : List V} (i : Nat), RDs K F H xs vs → RDs K F H (xs.eraseIdx i) (vs.eraseIdx i)
  | [], _, _, h => by unfold RDs at h; rw [h]; simp; exact .nil
  | x :: xs, _, 0, h => by
    unfold RDs at h
    obtain ⟨v, r, rfl, h1, h2⟩ := h
    exact h2
  | x :: xs, _, i + 1, h => by
    unfold RDs at h
    obtain ⟨v, r, rfl, h1, h2⟩ := h
    exact .cons h1 (RDs.eraseIdx i h2)
theorem RDs.ints : ∀ {xs : List PyData} {vs : List V} {is : List Int}, RDs K F H xs vs → intsOf xs = some is → vs = is.map V.int
  | [], _, is, h, e => by unfold RDs at h; simp [intsOf] at e; rw [h, e]; rfl
  | x :: xs, _, is, h, e => by
    unfold RDs at h
    obtain ⟨v, r, rfl, h1, h2⟩ := h
    cases x with
    | int i =>
      simp only [intsOf, Option.map_eq_some_iff] at e
      obtain ⟨js, e1, rfl⟩ := e
      rw [RDs.ints h2 e1]
      unfold RD at h1
      rw [h1]; rfl
    | _ => simp [intsOf] at e
theorem RDs.bools : ∀ {xs : List PyData} {vs : List V} {is : List Bool}, RDs K F H xs vs → boolsOf xs = some is → vs = is.map V.bl
  | [], _, is, h, e => by unfold RDs at h; simp [boolsOf] at e; rw [h, e]; rfl
  | x :: xs, _, is, h, e => by
    unfold RDs at h
    obtain ⟨v, r, rfl, h1, h2⟩ := h
    cases x with
    | bool i =>
      simp only [boolsOf, Option.map_eq_some_iff] at e
      obtain ⟨js, e1, rfl⟩ := e
      rw [RDs.bools h2 e1]
      unfold RD at h1
      rw [h1]; rfl
    | _ => simp [boolsOf] at e

/-- a new thing that is not to change -/
theorem Stp.fresh {p : Addr} {o : HO} (hp : H p = none) : Stp φ F H φ F (upd H p o) :=
  ⟨⟨[], by simp, by simp [ads]⟩, fun _ h => h, fun _ h n => absurd h n, fun a u _ h => by rw [upd_ne (ne_of_none h hp)]; exact h,
    fun a h => by unfold upd; split <;> simp [h]⟩
theorem RO.step {p : Addr × Option Addr} {o : PO} (st : Stp φ F H φ1 F1 H1) (hin : ∀ a ∈ ads φ, F a) (k : ∀ o, H p.1 = some o → H1 p.1 = some o) (k2 : ∀ c, p.2 = some c → ∀ o, H c = some o → H1 c = some o) (h : RO K F H p o) : RO K F1 H1 p o := by
  cases o with
  | lst xs =>
    obtain ⟨e, vs, h1, h2⟩ := h
    exact ⟨e, vs, k _ h1, h2.step st hin⟩
  | src cells l m t =>
    obtain ⟨c, e, h1, h2⟩ := h
    exact ⟨c, e, k _ h1, k2 c e _ h2⟩
theorem Rl.fresh {p : Addr} {o : HO} (hl : Rl K φ F S H) (hp : H p = none) : Rl K φ F S (upd H p o) := by
  refine ⟨hl.len, hl.nd, hl.inF, fun a h => (Stp.fresh (φ := φ) (F := F) (o := o) hp).dom a (hl.dom a h), fun n u e => ?_⟩
  obtain ⟨q, e1, r⟩ := hl.obj n u e
  exact ⟨q, e1, r.step (Stp.fresh hp) hl.inF (fun u h => by rw [upd_ne (ne_of_none h hp)]; exact h) fun c _ u h => by rw [upd_ne (ne_of_none h hp)]; exact h⟩
theorem notF {p : Addr} (hl : Rl K φ F S H) (hp : H p = none) : ¬ F p := fun h => hl.dom p h hp
/-- a new tuple, a new list of data -/
theorem RD.tupNew {p : Addr} {xs : List PyData} {vs : List V} (hl : Rl K φ F S H) (hp : H p = none) (h : RDs K F H xs vs) : RD K F (upd H p (.tup vs)) (.tuple xs) (.ref p) := by
  unfold RD
  exact ⟨p, vs, rfl, .inl ⟨notF hl hp, .inl upd_same⟩, h.step (Stp.fresh (φ := φ) hp) hl.inF⟩
theorem RD.lstNew {p : Addr} {xs : List PyData} {vs : List V} (hl : Rl K φ F S H) (hp : H p = none) (h : RDs K F H xs vs) : RD K F (upd H p (.lst vs)) (.list xs) (.ref p) := by
  unfold RD
  exact ⟨p, vs, rfl, .inl ⟨notF hl hp, .inl upd_same⟩, h.step (Stp.fresh (φ := φ) hp) hl.inF⟩

/-- read as a list, as a tuple -/
theorem sqL_of {a : Addr} {vs : List V} (h : (¬ F a ∧ Rd H a (.lst vs)) ∨ KL K a vs) : SqL K H a vs := by
  rcases h with ⟨_, h⟩ | h
  · exact .inl h
  · exact .inr h
theorem sqT_of {a : Addr} {vs : List V} (h : (¬ F a ∧ Rd H a (.tup vs)) ∨ KT K a vs) : SqT K H a vs := by
  rcases h with ⟨_, h⟩ | h
  · exact .inl h
  · exact .inr h
/-- what a value by value is: a list's items, wherever it stands -/
def VL (K : Fg) (F : FS) (H : Hp) (xs : List PyData) (v : V) : Prop := ∃ a vs, v = .ref a ∧ SqL K H a vs ∧ RDs K F H xs vs
/-- a value's reading by value -/
def VD (K : Fg) (F : FS) (H : Hp) : PyData → V → Prop
  | .list xs, v => VL K F H xs v
  | x, v => RD K F H x v
theorem RD.tup {xs : List PyData} {v : V} (h : RD K F H (.tuple xs) v) : ∃ a vs, v = .ref a ∧ SqT K H a vs ∧ RDs K F H xs vs := by
  unfold RD at h; obtain ⟨a, vs, e, h1, h2⟩ := h; exact ⟨a, vs, e, sqT_of h1, h2⟩
theorem VD.of {x : PyData} {v : V} (h : RD K F H x v) : VD K F H x v := by
  cases x with
  | list xs => unfold RD at h; obtain ⟨a, vs, e, h1, h2⟩ := h; exact ⟨a, vs, e, sqL_of h1, h2⟩
  | _ => exact h
theorem VD.deref {pv : PV} {v : V} {x : PyData} (hl : Rl K φ F S H) (h : RP K φ F H pv v) (e : deref S pv = some x) : VD K F H x v := by
  cases pv with
  | d y => simp only [Cr.deref, Option.some.injEq] at e; subst e; exact VD.of h
  | r n =>
    obtain ⟨p, e1, rfl⟩ := h
    unfold Cr.deref at e
    cases q : S[n]? with
    | none => simp [q] at e
    | some o =>
      cases o with
      | src _ _ _ _ => simp [q] at e
      | lst xs =>
        simp [q] at e; subst e
        obtain ⟨p', e2, r⟩ := hl.obj n _ q
        rw [e1] at e2; cases e2
        obtain ⟨_, vs, r1, r2⟩ := r
        exact ⟨_, vs, rfl, .inl (.inl r1), r2⟩
theorem VD.items {x : PyData} {xs : List PyData} {v : V} (h : VD K F H x v) (e : Cr.items x = some xs) : ∃ a vs, v = .ref a ∧ (SqL K H a vs ∨ SqT K H a vs) ∧ RDs K F H xs vs := by
  cases x with
  | list ys => simp [Cr.items] at e; subst e; obtain ⟨a, vs, e1, h1, h2⟩ := h; exact ⟨a, vs, e1, .inl h1, h2⟩
  | tuple ys => simp [Cr.items] at e; subst e; obtain ⟨a, vs, e1, h1, h2⟩ := RD.tup h; exact ⟨a, vs, e1, .inr h1, h2⟩
  | _ => simp [Cr.items] at e

/-! ### a list of the store is written -/
theorem ads_ne : ∀ {φ : Phi} {n m : Nat} {p q : Addr × Option Addr}, (ads φ).Nodup → φ[n]? = some p → φ[m]? = some q → m ≠ n → q.1 ≠ p.1 ∧ ∀ c, q.2 = some c → c ≠ p.1
  | [], n, m, p, q, _, h, _, _ => by simp at h
  | r :: φ, n, m, p, q, nd, h, h', hne => by
    have nd' : (r.1 :: (r.2.toList ++ ads φ)).Nodup := by simpa [ads] using nd
    rw [List.nodup_cons] at nd'
    obtain ⟨n1, n2⟩ := nd'
    rw [List.nodup_append] at n2
    obtain ⟨n3, n4, n5⟩ := n2
    have inq : ∀ {k : Nat} {t : Addr × Option Addr}, φ[k]? = some t → t.1 ∈ ads φ ∧ ∀ c, t.2 = some c → c ∈ ads φ := fun {k t} e =>
      ⟨mem_ads (List.mem_of_getElem? e), fun c hc => List.mem_flatMap.mpr ⟨t, List.mem_of_getElem? e, by rw [hc]; simp⟩⟩
    cases n with
    | zero =>
      cases m with
      | zero => exact absurd rfl hne
      | succ m =>
        simp at h h'
        subst h
        have hq := inq h'
        exact ⟨fun e => n1 (List.mem_append_right _ (by rw [← e]; exact hq.1)), fun c hc e => n1 (List.mem_append_right _ (by rw [← e]; exact hq.2 c hc))⟩
    | succ n =>
      cases m with
      | zero =>
        simp at h h'
        subst h'
        have hp := inq h
        exact ⟨fun e => n1 (List.mem_append_right _ (by rw [e]; exact hp.1)), fun c hc e => n5 c (by rw [hc]; simp) p.1 hp.1 e⟩
      | succ m =>
        simp at h h'
        exact ads_ne n4 h h' (by omega)
theorem Stp.write {n : Nat} {p : Addr × Option Addr} {o : HO} (hp : φ[n]? = some p) : Stp φ F H φ F (upd H p.1 o) := by
  refine ⟨⟨[], by simp, by simp [ads]⟩, fun _ h => h, fun _ h n => absurd h n, fun a u hn h => ?_, fun a h => ?_⟩
  · rw [upd_ne]
    · exact h
    · rintro rfl
      exact hn (mem_ads (List.mem_of_getElem? hp))
  · unfold upd; split <;> simp [h]
theorem Rl.lst (hl : Rl K φ F S H) {n : Nat} {xs : List PyData} (e : S[n]? = some (.lst xs)) : ∃ p vs, φ[n]? = some p ∧ p.2 = none ∧ H p.1 = some (.lst vs) ∧ RDs K F H xs vs := by
  obtain ⟨p, e1, e2, vs, h1, h2⟩ := hl.obj n _ e
  exact ⟨p, vs, e1, e2, h1, h2⟩
theorem Rl.write (hl : Rl K φ F S H) {n : Nat} {p : Addr × Option Addr} {ys : List PyData} {ws : List V} (hp : φ[n]? = some p) (h2 : p.2 = none) (hn : n < S.length) (h : RDs K F H ys ws) :
    Rl K φ F (S.set n (.lst ys)) (upd H p.1 (.lst ws)) := by
  have st : Stp φ F H φ F (upd H p.1 (.lst ws)) := Stp.write hp
  refine ⟨by rw [List.length_set]; exact hl.len, hl.nd, hl.inF, fun a ha => st.dom a (hl.dom a ha), fun m o e => ?_⟩
  by_cases hm : m = n
  · subst hm
    rw [List.getElem?_set_self hn] at e
    cases e
    exact ⟨p, hp, h2, ws, upd_same, h.step st hl.inF⟩
  · rw [List.getElem?_set_ne (Ne.symm hm)] at e
    obtain ⟨q, e1, r⟩ := hl.obj m o e
    obtain ⟨z1, z2⟩ := ads_ne hl.nd hp e1 hm
    exact ⟨q, e1, r.step st hl.inF (fun u h => by rw [upd_ne z1]; exact h) fun c hc u h => by rw [upd_ne (z2 c hc)]; exact h⟩

mutual
theorem RD.less (hF : ∀ a, F1 a → F a) : ∀ {x : PyData} {v : V}, RD K F H x v → RD K F1 H x v
  | .none, _, h => h
  | .bool _, _, h => h
  | .int _, _, h => h
  | .str _, _, h => h
  | .tuple xs, v, h => by
    unfold RD at h ⊢
    obtain ⟨a, vs, e, h1, h2⟩ := h
    exact ⟨a, vs, e, h1.imp (fun h => ⟨fun q => h.1 (hF a q), h.2⟩) id, RDs.less hF h2⟩
  | .list xs, v, h => by
    unfold RD at h ⊢
    obtain ⟨a, vs, e, h1, h2⟩ := h
    exact ⟨a, vs, e, h1.imp (fun h => ⟨fun q => h.1 (hF a q), h.2⟩) id, RDs.less hF h2⟩
  | .dict _, _, h => by
    unfold RD at h ⊢
    obtain ⟨e0, a, e, n, r⟩ := h
    exact ⟨e0, a, e, fun q => n (hF a q), r⟩
theorem RDs.less (hF : ∀ a, F1 a → F a) : ∀ {xs : List PyData} {vs : List V}, RDs K F H xs vs → RDs K F1 H xs vs
  | [], _, h => by unfold RDs at h ⊢; exact h
  | x :: xs, _, h => by
    unfold RDs at h ⊢
    obtain ⟨v, r, e, h1, h2⟩ := h
    exact ⟨v, r, e, RD.less hF h1, RDs.less hF h2⟩
end
theorem RO.less (hF : ∀ a, F1 a → F a) {p : Addr × Option Addr} {o : PO} (h : RO K F H p o) : RO K F1 H p o := by
  cases o with
  | lst xs => obtain ⟨e, vs, h1, h2⟩ := h; exact ⟨e, vs, h1, h2.less hF⟩
  | src cells l m t => exact h
/-- v is a new list of xs: no store, no data knows it -/
def NewL (K : Fg) (φ : Phi) (F : FS) (S : Store) (H H' : Hp) (xs : List PyData) (v : V) : Prop :=
  ∃ a vs, v = .ref a ∧ H a = none ∧ ¬ F a ∧ H' a = some (.lst vs) ∧ Rl K φ (fun b => F b ∨ b = a) S H' ∧ RDs K (fun b => F b ∨ b = a) H' xs vs
theorem NewL.back (st : Stp φ F H φ1 F1 H1) {φ' : Phi} {F' : FS} {xs : List PyData} {v : V} (h : NewL K φ' F' S H1 H2 xs v) : NewL K φ' F' S H H2 xs v := by
  obtain ⟨a, vs, e, h1, h2⟩ := h
  refine ⟨a, vs, e, ?_, h2⟩
  cases q : H a with
  | none => rfl
  | some o => exact absurd h1 (st.dom a (by rw [q]; simp))
/-- the heap with one thing more that nothing knows -/
theorem Stp.avoid {p : Addr} {o : HO} (hp : H p = none) : Stp φ F H φ (fun b => F b ∨ b = p) (upd H p o) :=
  ⟨⟨[], by simp, by simp [ads]⟩, fun _ h => .inl h, fun a h n => by rcases h with h | rfl; exact absurd h n; exact hp, fun a u _ h => by rw [upd_ne (ne_of_none h hp)]; exact h,
    fun a h => by unfold upd; split <;> simp [h]⟩
theorem Rl.avoid {p : Addr} {o : HO} (hl : Rl K φ F S H) (hp : H p = none) : Rl K φ (fun b => F b ∨ b = p) S (upd H p o) := by
  refine ⟨hl.len, hl.nd, fun a h => .inl (hl.inF a h), fun a h => ?_, fun n u e => ?_⟩
  · rcases h with h | rfl
    · exact (Stp.avoid (φ := φ) (F := F) (o := o) hp).dom a (hl.dom a h)
    · rw [upd_same]; simp
  · obtain ⟨q, e1, r⟩ := hl.obj n u e
    exact ⟨q, e1, r.step (Stp.avoid hp) hl.inF (fun u h => by rw [upd_ne (ne_of_none h hp)]; exact h) fun c _ u h => by rw [upd_ne (ne_of_none h hp)]; exact h⟩
theorem NewL.made {p : Addr} {xs : List PyData} {vs : List V} (hl : Rl K φ F S H) (hp : H p = none) (h : RDs K F H xs vs) : NewL K φ F S H (upd H p (.lst vs)) xs (.ref p) :=
  ⟨p, vs, rfl, hp, notF hl hp, upd_same, hl.avoid hp, h.step (Stp.avoid (φ := φ) hp) hl.inF⟩
/-- a new list becomes the frame's own -/
theorem NewL.own (hl : Rl K φ1 F1 S H1) (st : Stp φ F H φ1 F1 H1) {xs : List PyData} {v : V} (h : NewL K φ1 F1 S H H1 xs v) :
    ∃ a, v = .ref a ∧ Stp φ F H (φ1 ++ [(a, none)]) (fun b => F1 b ∨ b = a) H1 ∧ Rl K (φ1 ++ [(a, none)]) (fun b => F1 b ∨ b = a) (S ++ [.lst xs]) H1 := by
  obtain ⟨a, vs, e, h1, h2, h3, h4, h5⟩ := h
  have hna : a ∉ ads φ1 := fun hc => h2 (hl.inF a hc)
  refine ⟨a, e, ?_, ?_⟩
  · obtain ⟨ψ, e1, n1⟩ := st.more
    refine ⟨⟨ψ ++ [(a, none)], by rw [e1, List.append_assoc], fun b hb => ?_⟩, fun b hb => .inl (st.fF b hb), fun b hb hn => ?_, st.keep, st.dom⟩
    · rw [ads_append] at hb
      rcases List.mem_append.mp hb with hb | hb
      · exact n1 b hb
      · simp [ads] at hb; rw [hb]; exact h1
    · rcases hb with hb | rfl
      · exact st.nF b hb hn
      · exact h1
  · refine ⟨by simp [hl.len], ?_, fun b hb => ?_, h4.dom, fun n o q => ?_⟩
    · rw [ads_append, List.nodup_append]
      refine ⟨hl.nd, by simp [ads], fun b hb c hc => ?_⟩
      simp [ads] at hc
      subst hc
      rintro rfl
      exact hna hb
    · rw [ads_append] at hb
      rcases List.mem_append.mp hb with hb | hb
      · exact .inl (hl.inF b hb)
      · simp [ads] at hb; exact .inr hb
    · by_cases hn : n < S.length
      · rw [List.getElem?_append_left hn] at q
        obtain ⟨p, e1, r⟩ := h4.obj n o q
        refine ⟨p, ?_, r⟩
        rw [List.getElem?_append_left (by rw [hl.len]; exact hn)]
        exact e1
      · have hn' : n = S.length := by
          have := (List.getElem?_eq_some_iff.mp q).1
          simp at this; omega
        subst hn'
        simp at q; subst q
        refine ⟨(a, none), ?_, rfl, vs, h3, h5⟩
        rw [← hl.len]; simp
end
end Cr

/-! ## CrC -/
set_option Elab.async false
set_option linter.all false
set_option autoImplicit false
set_option maxRecDepth 100000
set_option maxHeartbeats 4000000
/-! CrC: the rules of expressions: what the evaluator gives is what the model gives. -/
namespace Cr
open PySem PySem.Spec L2
open PyProof.Rows (add_int sub_int mul_int floordiv_int mod_int')

def tE (K : Fg) (P : Prm) (e : CE) : TE := fun σ H Q => ∃ φ F ρ S, Rl K φ F S H ∧ Re K φ F H ρ σ ∧ ∃ pv S', ev P e ρ S = some (pv, S') ∧
  ∀ φ' F' H' v, Stp φ F H φ' F' H' → Rl K φ' F' S' H' → RP K φ' F' H' pv v → (isNew e = true → ∀ xs, pv = .d (.list xs) → NewL K φ' F' S' H H' xs v) → Q v H'
def RPs (K : Fg) (φ : Phi) (F : FS) (H : Hp) : List PV → List V → Prop
  | [], vs => vs = []
  | x :: xs, vs => ∃ v r, vs = v :: r ∧ RP K φ F H x v ∧ RPs K φ F H xs r
/-- arguments -/
def tP (K : Fg) (P : Prm) (es : List CE) : TA := fun σ H Q => ∃ φ F ρ S, Rl K φ F S H ∧ Re K φ F H ρ σ ∧ ∃ pvs S', evp P es ρ S = some (pvs, S') ∧
  ∀ φ' F' H' vs, Stp φ F H φ' F' H' → Rl K φ' F' S' H' → RPs K φ' F' H' pvs vs → Q vs H'
/-- items of a display -/
def tS (K : Fg) (P : Prm) (es : List CE) : TA := fun σ H Q => ∃ φ F ρ S, Rl K φ F S H ∧ Re K φ F H ρ σ ∧ ∃ xs S', evs P es ρ S = some (xs, S') ∧
  ∀ φ' F' H' vs, Stp φ F H φ' F' H' → Rl K φ' F' S' H' → RDs K F' H' xs vs → Q vs H'
/-- a test -/
def tT (K : Fg) (P : Prm) (e : CE) : TT := fun σ H Q => ∃ φ F ρ S, Rl K φ F S H ∧ Re K φ F H ρ σ ∧ ∃ k S', op1 (ev P e ρ S) truD = some (k, S') ∧
  ∀ φ' F' H', Stp φ F H φ' F' H' → Rl K φ' F' S' H' → Q k H'

theorem PE.imp {X : Cx} {e : Expr} {t t' : TE} (h : PE X e t) (i : ∀ σ H Q, t' σ H Q → t σ H Q) : PE X e t' := ⟨fun pins s σ H Q I q => h.run pins s σ H Q I (i σ H Q q)⟩
theorem PT.imp {X : Cx} {e : Expr} {t t' : TT} (h : PT X e t) (i : ∀ σ H Q, t' σ H Q → t σ H Q) : PT X e t' := ⟨fun pins s σ H Q I q => h.run pins s σ H Q I (i σ H Q q)⟩
theorem PA.imp {X : Cx} {es : List Expr} {t t' : TA} (h : PA X es t) (i : ∀ σ H Q, t' σ H Q → t σ H Q) : PA X es t' := ⟨fun pos pins s σ H Q I q => h.run pos pins s σ H Q I (i σ H Q q)⟩
theorem PS.imp {X : Cx} {e : Stmt} {t t' : TS} (h : PS X e t) (i : ∀ D σ H, t' D σ H → t D σ H) : PS X e t' := ⟨fun pins s σ H D I q => h.run pins s σ H D I (i D σ H q)⟩
theorem PSs.imp {X : Cx} {e : List Stmt} {t t' : TS} (h : PSs X e t) (i : ∀ D σ H, t' D σ H → t D σ H) : PSs X e t' := ⟨fun pins s σ H D I q => h.run pins s σ H D I (i D σ H q)⟩

section
variable {β : Type} {ra : Option (PV × Store)} {rb : Store → Option (PV × Store)}
theorem of_op1 {f : PyData → Option β} {z : β} {S' : Store} (h : op1 ra f = some (z, S')) : ∃ pv x, ra = some (pv, S') ∧ deref S' pv = some x ∧ f x = some z := by
  unfold op1 at h
  obtain ⟨⟨pv, S1⟩, e1, h⟩ := Option.bind_eq_some_iff.mp h
  obtain ⟨x, e2, h⟩ := Option.bind_eq_some_iff.mp h
  obtain ⟨w, e3, h⟩ := Option.map_eq_some_iff.mp h
  cases h
  exact ⟨pv, x, e1, e2, e3⟩
theorem of_op2 {f : PyData → PyData → Option β} {z : β} {S' : Store} (h : op2 ra rb f = some (z, S')) :
    ∃ pv S1 qv x y, ra = some (pv, S1) ∧ rb S1 = some (qv, S') ∧ deref S' pv = some x ∧ deref S' qv = some y ∧ f x y = some z := by
  unfold op2 at h
  obtain ⟨⟨pv, S1⟩, e1, h⟩ := Option.bind_eq_some_iff.mp h
  obtain ⟨⟨qv, S2⟩, e2, h⟩ := Option.bind_eq_some_iff.mp h
  obtain ⟨x, e3, h⟩ := Option.bind_eq_some_iff.mp h
  obtain ⟨y, e4, h⟩ := Option.bind_eq_some_iff.mp h
  obtain ⟨w, e5, h⟩ := Option.map_eq_some_iff.mp h
  cases h
  exact ⟨pv, S1, qv, x, y, e1, e2, e3, e4, e5⟩
theorem of_dt {x : PyData} {S' : Store} (h : dt ra = some (x, S')) : ra = some (.d x, S') := by
  unfold dt at h
  obtain ⟨⟨pv, S1⟩, e1, h⟩ := Option.bind_eq_some_iff.mp h
  cases pv with
  | d y => simp at h; obtain ⟨rfl, rfl⟩ := h; exact e1
  | r n => simp at h
theorem of_vd {r : Option (PyData × Store)} {pv : PV} {S' : Store} (h : vd r = some (pv, S')) : ∃ x, r = some (x, S') ∧ pv = .d x := by
  unfold vd at h
  obtain ⟨⟨x, S1⟩, e1, h⟩ := Option.map_eq_some_iff.mp h
  cases h
  exact ⟨x, e1, rfl⟩
theorem of_vb {r : Option (Bool × Store)} {pv : PV} {S' : Store} (h : vb r = some (pv, S')) : ∃ x, r = some (x, S') ∧ pv = .d (.bool x) := by
  unfold vb at h
  obtain ⟨⟨x, S1⟩, e1, h⟩ := Option.map_eq_some_iff.mp h
  cases h
  exact ⟨x, e1, rfl⟩
end

section
variable {K : Fg} {φ : Phi} {F : FS} {H : Hp} {S : Store}
theorem VD.intD {x : PyData} {v : V} {i : Int} (h : VD K F H x v) (e : Cr.intD x = some i) : v = .int i := by
  cases x with
  | int j => simp [Cr.intD] at e; subst e; unfold VD RD at h; exact h
  | _ => simp [Cr.intD] at e
theorem VD.dp {x : PyData} {v : V} (h : VD K F H x v) (nd : x.hasDict = false) (d : ∀ xs vs, PyData.hasDictAll xs = false → RDs K F H xs vs → DpAll K H vs xs) : Dp K H v x := by
  cases x with
  | none => unfold VD RD at h; rw [h]; exact .non
  | bool b => unfold VD RD at h; rw [h]; exact .bl b
  | int i => unfold VD RD at h; rw [h]; exact .int i
  | str s => unfold VD RD at h; rw [h]; exact .str s
  | list xs => obtain ⟨a, vs, rfl, h1, h2⟩ := h; exact .lst h1 (d _ _ nd h2)
  | tuple xs => obtain ⟨a, vs, rfl, h1, h2⟩ := RD.tup h; exact .tup h1 (d _ _ nd h2)
  | dict kvs => cases nd
mutual
theorem RD.dp : ∀ {x : PyData} {v : V}, x.hasDict = false → RD K F H x v → Dp K H v x
  | .none, _, _, h => by unfold RD at h; rw [h]; exact .non
  | .bool b, _, _, h => by unfold RD at h; rw [h]; exact .bl b
  | .int i, _, _, h => by unfold RD at h; rw [h]; exact .int i
  | .str s, _, _, h => by unfold RD at h; rw [h]; exact .str s
  | .list xs, _, nd, h => by unfold RD at h; obtain ⟨a, vs, rfl, h1, h2⟩ := h; exact .lst (sqL_of h1) (RDs.dp nd h2)
  | .tuple xs, _, nd, h => by unfold RD at h; obtain ⟨a, vs, rfl, h1, h2⟩ := h; exact .tup (sqT_of h1) (RDs.dp nd h2)
  | .dict kvs, _, nd, h => nomatch nd
theorem RDs.dp : ∀ {xs : List PyData} {vs : List V}, PyData.hasDictAll xs = false → RDs K F H xs vs → DpAll K H vs xs
  | [], _, _, h => by unfold RDs at h; rw [h]; exact .nil
  | x :: xs, _, nd, h => by
    unfold RDs at h
    obtain ⟨v, r, rfl, h1, h2⟩ := h
    simp only [PyData.hasDictAll, Bool.or_eq_false_iff] at nd
    exact .cons (RD.dp nd.1 h1) (RDs.dp nd.2 h2)
end
theorem VD.dp' {x : PyData} {v : V} (h : VD K F H x v) (nd : x.hasDict = false) : Dp K H v x := h.dp nd fun _ _ nd q => RDs.dp nd q
mutual
theorem shp_nd : ∀ (n : Nat) (x : PyData), shp n x = true → x.hasDict = false
  | _, .none, _ => rfl
  | _, .bool _, _ => rfl
  | _, .int _, _ => rfl
  | _, .str _, _ => rfl
  | 0, .list _, h => by simp [shp] at h
  | 0, .tuple _, h => by simp [shp] at h
  | n + 1, .list xs, h => by simp only [shp] at h; exact shpAll_nd n xs h
  | n + 1, .tuple xs, h => by simp only [shp] at h; exact shpAll_nd n xs h
  | 0, .dict _, h => by simp [shp] at h
  | n + 1, .dict _, h => by simp [shp] at h
theorem shpAll_nd : ∀ (n : Nat) (xs : List PyData), shpAll n xs = true → PyData.hasDictAll xs = false
  | _, [], _ => rfl
  | n, x :: xs, h => by
    simp only [shpAll, Bool.and_eq_true] at h
    simp only [PyData.hasDictAll, Bool.or_eq_false_iff]
    exact ⟨shp_nd n x h.1, shpAll_nd n xs h.2⟩
end
mutual
theorem shp_ok : ∀ (n : Nat) (x : PyData), shp n x = true → x.canLay0 = true ∧ x.depth ≤ n
  | _, .none, _ => by simp [PyData.canLay0, PyData.depth]
  | _, .bool _, _ => by simp [PyData.canLay0, PyData.depth]
  | _, .int _, _ => by simp [PyData.canLay0, PyData.depth]
  | n, .str s, h => by simp only [shp] at h; simp [PyData.canLay0, PyData.depth, h]
  | 0, .list _, h => by simp [shp] at h
  | 0, .tuple _, h => by simp [shp] at h
  | n + 1, .list xs, h => by
    simp only [shp] at h
    have q := shpAll_ok n xs h
    simp only [PyData.canLay0, PyData.depth]
    exact ⟨q.1, by omega⟩
  | n + 1, .tuple xs, h => by
    simp only [shp] at h
    have q := shpAll_ok n xs h
    simp only [PyData.canLay0, PyData.depth]
    exact ⟨q.1, by omega⟩
  | 0, .dict _, h => by simp [shp] at h
  | n + 1, .dict _, h => by simp [shp] at h
theorem shpAll_ok : ∀ (n : Nat) (xs : List PyData), shpAll n xs = true → PyData.canLayAll0 xs = true ∧ PyData.depthAll xs ≤ n
  | _, [], _ => by simp [PyData.canLayAll0, PyData.depthAll]
  | n, x :: xs, h => by
    simp only [shpAll, Bool.and_eq_true] at h
    have q := shp_ok n x h.1
    have r := shpAll_ok n xs h.2
    simp only [PyData.canLayAll0, PyData.depthAll, Bool.and_eq_true]
    exact ⟨⟨q.1, r.1⟩, by omega⟩
end
theorem shaped_of {x : PyData} (h : shp 12 x = true) : SeqAt.shaped x = true := by
  have q := shp_ok 12 x h
  unfold SeqAt.shaped
  rw [q.1, Bool.true_and]
  exact decide_eq_true (by omega)
/-- values by value, one by one -/
inductive VDs (K : Fg) (F : FS) (H : Hp) : List PyData → List V → Prop
  | nil : VDs K F H [] []
  | cons {x : PyData} {v : V} {xs : List PyData} {vs : List V} : VD K F H x v → VDs K F H xs vs → VDs K F H (x :: xs) (v :: vs)
theorem RPs.derefs (hl : Rl K φ F S H) : ∀ {pvs : List PV} {vs : List V} {xs : List PyData}, RPs K φ F H pvs vs → Cr.derefs S pvs = some xs → VDs K F H xs vs
  | [], _, _, h, e => by
    unfold RPs at h
    simp [Cr.derefs] at e
    subst h e
    exact .nil
  | pv :: pvs, _, xs, h, e => by
    unfold RPs at h
    obtain ⟨v, r, rfl, h1, h2⟩ := h
    unfold Cr.derefs at e
    obtain ⟨x, e1, e⟩ := Option.bind_eq_some_iff.mp e
    obtain ⟨ys, e2, rfl⟩ := Option.map_eq_some_iff.mp e
    exact .cons (VD.deref hl h1 e1) (RPs.derefs hl h2 e2)
theorem RPs.step {φ1 : Phi} {F1 : FS} {H1 : Hp} (st : Stp φ F H φ1 F1 H1) (hl : Rl K φ F S H) : ∀ {pvs : List PV} {vs : List V}, RPs K φ F H pvs vs → RPs K φ1 F1 H1 pvs vs
  | [], _, h => by unfold RPs at h ⊢; exact h
  | pv :: pvs, _, h => by
    unfold RPs at h ⊢
    obtain ⟨v, r, e, h1, h2⟩ := h
    exact ⟨v, r, e, h1.step st hl, RPs.step st hl h2⟩
end

section
variable {X : Cx} {P : Prm} {pos : Pos} {a b c : Expr} {ca cb cc : CE}
/-- what a rule by values hands on: the same store, a value of data; a list is a new one if nw -/
def rOut (nw : Bool) (K : Fg) (φ : Phi) (F : FS) (S : Store) (H : Hp) (z : PyData) (Q : VK) : Prop :=
  ∀ H' w, Stp φ F H φ F H' → Rl K φ F S H' → RD K F H' z w → (nw = true → ∀ xs, z = .list xs → NewL K φ F S H H' xs w) → Q w H'
section
variable {K : Fg} {φ : Phi} {F : FS} {S : Store} {H : Hp} {z : PyData} {Q : VK} {w : V} {nw : Bool}
theorem out_same (hl : Rl K φ F S H) (r : RD K F H z w) (hz : ∀ xs, z ≠ .list xs) (h : rOut nw K φ F S H z Q) : Q w H := h H w Stp.refl hl r fun _ xs e => absurd e (hz xs)
theorem out_any (hl : Rl K φ F S H) (r : RD K F H z w) (h : rOut false K φ F S H z Q) : Q w H := h H w Stp.refl hl r (fun e => nomatch e)
theorem out_tup {xs : List PyData} {vs : List V} (hl : Rl K φ F S H) (r : RDs K F H xs vs) (h : rOut nw K φ F S H (.tuple xs) Q) : ∀ p, H p = none → Q (.ref p) (upd H p (.tup vs)) :=
  fun p hp => h _ _ (Stp.fresh hp) (hl.fresh hp) (RD.tupNew hl hp r) fun _ _ e => nomatch e
theorem out_lst {xs : List PyData} {vs : List V} (hl : Rl K φ F S H) (r : RDs K F H xs vs) (h : rOut nw K φ F S H (.list xs) Q) : ∀ p, H p = none → Q (.ref p) (upd H p (.lst vs)) :=
  fun p hp => h _ _ (Stp.fresh hp) (hl.fresh hp) (RD.lstNew hl hp r) fun _ ys e => by cases e; exact NewL.made hl hp r
theorem RD.int (i : Int) : RD K F H (.int i) (.int i) := by unfold RD; rfl
theorem RD.bool (i : Bool) : RD K F H (.bool i) (.bl i) := by unfold RD; rfl
theorem RD.none : RD K F H .none .non := by unfold RD; rfl
end
def rOp (nw : Bool) (K : Fg) (f : PyData → PyData → Option PyData) : R2 := fun v u H Q => ∃ φ F S x y z, Rl K φ F S H ∧ VD K F H x v ∧ VD K F H y u ∧ f x y = some z ∧ rOut nw K φ F S H z Q
theorem to_op {f : PyData → PyData → Option PyData} {e : CE} (he : ∀ ρ S, ev P e ρ S = vd (op2 (ev P ca ρ S) (ev P cb ρ) f)) (σ : St) (H : Hp) (Q : VK) (h : tE X.K P e σ H Q) :
    tOp (rOp (isNew e) X.K f) (tE X.K P ca) (tE X.K P cb) σ H Q := by
  obtain ⟨φ, F, ρ, S, hl, hρ, pv, S', e1, q⟩ := h
  rw [he] at e1
  obtain ⟨z, e0, rfl⟩ := of_vd e1
  obtain ⟨pv, S1, qv, x, y, e2, e3, e4, e5, e6⟩ := of_op2 e0
  refine ⟨φ, F, ρ, S, hl, hρ, pv, S1, e2, fun φ1 F1 H1 v st1 hl1 r1 _ => ?_⟩
  refine ⟨φ1, F1, ρ, S1, hl1, hρ.step st1 hl, qv, S', e3, fun φ2 F2 H2 u st2 hl2 r2 _ => ?_⟩
  refine ⟨φ2, F2, S', x, y, z, hl2, VD.deref hl2 (r1.step st2 hl1) e4, VD.deref hl2 r2 e5, e6, fun H' w st hl' r nl => ?_⟩
  exact q φ2 F2 H' w ((st1.trans st2).trans st) hl' r fun hn xs e => by cases e; exact (nl hn xs rfl).back (st1.trans st2)
/-- a comparison's value -/
theorem to_opB {f : PyData → PyData → Option Bool} {e : CE} (he : ∀ ρ S, ev P e ρ S = vb (op2 (ev P ca ρ S) (ev P cb ρ) f)) (σ : St) (H : Hp) (Q : VK) (h : tE X.K P e σ H Q) :
    tOp (rOp false X.K fun x y => (f x y).map PyData.bool) (tE X.K P ca) (tE X.K P cb) σ H Q := by
  obtain ⟨φ, F, ρ, S, hl, hρ, pv, S', e1, q⟩ := h
  rw [he] at e1
  obtain ⟨z, e0, rfl⟩ := of_vb e1
  obtain ⟨pv, S1, qv, x, y, e2, e3, e4, e5, e6⟩ := of_op2 e0
  refine ⟨φ, F, ρ, S, hl, hρ, pv, S1, e2, fun φ1 F1 H1 v st1 hl1 r1 _ => ?_⟩
  refine ⟨φ1, F1, ρ, S1, hl1, hρ.step st1 hl, qv, S', e3, fun φ2 F2 H2 u st2 hl2 r2 _ => ?_⟩
  refine ⟨φ2, F2, S', x, y, .bool z, hl2, VD.deref hl2 (r1.step st2 hl1) e4, VD.deref hl2 r2 e5, by show Option.map PyData.bool (f x y) = _; rw [e6]; rfl, fun H' w st hl' r _ => ?_⟩
  exact q φ2 F2 H' w ((st1.trans st2).trans st) hl' r fun hn xs e => nomatch e
/-- the same of a test -/
theorem to_opT {f : PyData → PyData → Option Bool} {e : CE} (he : ∀ ρ S, ev P e ρ S = vb (op2 (ev P ca ρ S) (ev P cb ρ) f)) (σ : St) (H : Hp) (Q : Bool → Hp → Prop) (h : tT X.K P e σ H Q) :
    tTest (tOp (rOp false X.K fun x y => (f x y).map PyData.bool) (tE X.K P ca) (tE X.K P cb)) σ H Q := by
  obtain ⟨φ, F, ρ, S, hl, hρ, k, S', e1, q⟩ := h
  obtain ⟨pv, x, e1, e2, e3⟩ := of_op1 e1
  refine to_opB he σ H _ ⟨φ, F, ρ, S, hl, hρ, pv, S', e1, fun φ' F' H' v st hl' r _ => ?_⟩
  rw [he] at e1
  obtain ⟨z, e0, rfl⟩ := of_vb e1
  simp only [Cr.deref, Option.some.injEq] at e2
  subst e2
  simp only [truD, Option.some.injEq] at e3
  subst e3
  exact ⟨z, r, q φ' F' H' st hl'⟩

/-! ### operators -/
theorem log2_of_sm {i : Int} (h : sm i) : i.natAbs.log2 < 8192 := by
  rcases Nat.eq_zero_or_pos i.natAbs with h0 | hp
  · rw [h0]; simp
  · exact (Nat.log2_lt (Nat.ne_of_gt hp)).mpr (by unfold sm lim at h; exact h)
theorem opr_int {f : Value → Value → Sem Value} {C : Int → Int → Prop} {g : Int → Int → Int}
    (rule : ∀ (i j : Int) (t u : Tok) (s : Shared) (Q : Value → Shared → Prop) (E : Value → Shared → Prop), C i j → Q (.int (g i j) s.toks) { s with toks := s.toks + 1 } → wpAny (model X.prog X.w) X.A (f (.int i t) (.int j u)) Q E s)
    {pins : List (Addr × Obj)} {s : Shared} {σ : St} {H : Hp} {i j : Int} {v u : Value} {Q : VK} (I : Inv X pins σ H s) (rx : RelV (.int i) v) (ry : RelV (.int j) u) (hc : C i j) (q : Q (.int (g i j)) H) :
    wpAny (model X.prog X.w) X.A (f v u) (EP X pins σ Q) X.xe s := by
  obtain ⟨t, rfl⟩ := rx
  obtain ⟨t', rfl⟩ := ry
  exact rule i j t t' s _ _ hc ⟨.int _, H, I.tok _, ⟨_, rfl⟩, q⟩
theorem op_cat' : OpR X (binaryOp .Add) (fun x y H Q => ∃ l b xs zs, x = .ref l ∧ y = .ref b ∧ SqL X.K H l xs ∧ SqL X.K H b zs ∧ xs.length + zs.length ≤ sizeLine ∧ ∀ p, H p = none → Q (.ref p) (upd H p (.lst (xs ++ zs)))) := by
  intro pins s σ H x y v u Q I rx ry h
  obtain ⟨l, b, xs, zs, rfl, rfl, hH, hB, hz, q⟩ := h
  cases rx
  cases ry
  obtain ⟨vs, r, p1, z1⟩ := I.list hH
  obtain ⟨ws, r2, p2, z2⟩ := I.list hB
  obtain ⟨⟨cls, dd, data, sl⟩, n, ho, hc, hd0, hd⟩ := p1
  obtain ⟨⟨cls2, dd2, data2, sl2⟩, n2, ho2, hc2, hd02, hd2⟩ := p2
  simp only at hc hd hc2 hd2
  subst hc hd hc2 hd2
  have e : vs.toArray ++ ws.toArray = (vs ++ ws).toArray := by simp
  have hsz : vs.length + ws.length ≤ sizeLine := by rw [← r.length, ← r2.length]; exact hz
  refine concat_meets ⟨_, ho, rfl⟩ ⟨_, ho2, rfl⟩ noFill_list_add seq_list_add PySem.F.slot_list_add PySem.F.entry_list_add (PySem.F.args_list_add_2 _ _) (PyProof.Rows.list_addW l b vs.toArray ws.toArray n n2 dd dd2 sl sl2 (by simpa using hsz)) ⟨ho, ho2, ?_⟩
  rw [e]
  exact ⟨.ref _, _, I.lnew (t' := s.toks) (r.append r2) (by rw [List.length_append]; omega), rfl, q _ I.fresh⟩
def opOf : BOp → Operator
  | .add => .Add
  | .sub => .Sub
  | .mul => .Mult
  | .fdiv => .FloorDiv
  | .mod => .Mod
theorem opr_bin (op : BOp) : OpR X (binaryOp (opOf op)) (rOp true X.K (binD op)) := by
  intro pins s σ H v u vv uu Q I rx ry h
  obtain ⟨φ, F, S, x, y, z, hl, h1, h2, e, out⟩ := h
  cases x with
  | int i =>
    cases y with
    | int j =>
      have e1 : v = .int i := h1.intD rfl
      have e2 : u = .int j := h2.intD rfl
      subst e1 e2
      cases op with
      | add =>
        simp only [binD, Option.some.injEq] at e; subst e
        exact opr_int (C := fun _ _ => True) (g := fun i j => i + j) (fun _ _ _ _ _ _ _ _ q => add_int q) I rx ry trivial (out_same hl (.int _) (fun _ e => nomatch e) out)
      | sub =>
        simp only [binD, Option.some.injEq] at e; subst e
        exact opr_int (C := fun _ _ => True) (g := fun i j => i - j) (fun _ _ _ _ _ _ _ _ q => sub_int q) I rx ry trivial (out_same hl (.int _) (fun _ e => nomatch e) out)
      | mul =>
        simp only [binD] at e
        split at e
        · rename_i hs
          simp only [Option.some.injEq] at e; subst e
          refine opr_int (C := CMulW) (g := fun i j => i * j) (fun _ _ _ _ _ _ _ hc q => mul_int q hc.ok) I rx ry ?_ (out_same hl (.int _) (fun _ e => nomatch e) out)
          have a1 := log2_of_sm hs.1
          have a2 := log2_of_sm hs.2
          unfold CMulW; omega
        · cases e
      | fdiv =>
        simp only [binD] at e
        split at e
        · rename_i hs
          simp only [Option.some.injEq] at e; subst e
          refine opr_int (C := fun _ j => j ≠ 0 ∧ j.natAbs.log2 < 9000) (g := fun i j => i.fdiv j) (fun _ _ _ _ _ _ _ hc q => floordiv_int hc.1 q (.inl (PyProof.noPylong_of_log2 hc.2))) I rx ry ⟨hs.1, ?_⟩ (out_same hl (.int _) (fun _ e => nomatch e) out)
          have a2 := log2_of_sm hs.2
          omega
        · cases e
      | mod =>
        simp only [binD] at e
        split at e
        · rename_i hs
          simp only [Option.some.injEq] at e; subst e
          exact opr_int (C := fun _ j => j ≠ 0) (g := fun i j => i.fmod j) (fun _ _ _ _ _ _ _ hc q => mod_int' hc q) I rx ry hs (out_same hl (.int _) (fun _ e => nomatch e) out)
        · cases e
    | _ => simp [binD] at e
  | list xs =>
    cases y with
    | list ys =>
      cases op with
      | add =>
        simp only [binD] at e
        split at e
        · rename_i hs
          simp only [Option.some.injEq] at e; subst e
          obtain ⟨p, vs, rfl, g1, g2⟩ := h1
          obtain ⟨p', vs', rfl, g1', g2'⟩ := h2
          refine op_cat' pins s σ H _ _ vv uu Q I rx ry ⟨p, p', vs, vs', rfl, rfl, g1, g1', ?_, out_lst hl (g2.append g2') out⟩
          rw [← g2.length, ← g2'.length]; exact hs
        · cases e
      | _ => simp [binD] at e
    | _ => simp [binD] at e
  | tuple xs =>
    cases y with
    | tuple ys =>
      cases op with
      | add =>
        simp only [binD] at e
        split at e
        · rename_i hs
          simp only [Option.some.injEq] at e; subst e
          have t1 : RD X.K F H (.tuple xs) v := h1
          have t2 : RD X.K F H (.tuple ys) u := h2
          obtain ⟨p, vs, rfl, g1, g2⟩ := h1.tup
          obtain ⟨p', vs', rfl, g1', g2'⟩ := h2.tup
          refine op_catA pins s σ H _ _ vv uu Q I rx ry ⟨p, p', vs, vs', rfl, rfl, g1, g1', ?_, fun hv => ?_, fun hv hw => ?_, fun _ _ => out_tup hl (g2.append g2') out⟩
          · rw [← g2.length, ← g2'.length]; exact hs
          · have hx : xs = [] := List.length_eq_zero_iff.mp (by rw [g2.length, hv]; rfl)
            subst hx
            exact out_same hl t2 (fun _ e => nomatch e) out
          · have hx : ys = [] := List.length_eq_zero_iff.mp (by rw [g2'.length, hw]; rfl)
            subst hx
            rw [List.append_nil] at out
            exact out_same hl t1 (fun _ e => nomatch e) out
        · cases e
      | _ => simp [binD] at e
    | _ => simp [binD] at e
  | _ => cases y <;> simp [binD] at e
theorem rOp_less {op : CmpOp} {f : Value → Value → Sem Value} {K : Fg} {g : PyData → PyData → Option PyData} {nw : Bool} (h : OpR X f (rOp true K g)) : OpR X f (rOp nw K g) := by
  intro pins s σ H x y v u Q I rx ry ⟨φ, F, S, a, b, z, hl, h1, h2, e, out⟩
  exact h pins s σ H x y v u Q I rx ry ⟨φ, F, S, a, b, z, hl, h1, h2, e, fun H' w st hl' r nl => out H' w st hl' r fun _ => nl rfl⟩
theorem r_bin {op : BOp} (ha : PE X a (tE X.K P ca)) (hb : PE X b (tE X.K P cb)) : PE X (.BinOp a (opOf op) b pos) (tE X.K P (.bin op ca cb)) :=
  PE.imp (pe_op (opr_bin op) ha hb) (to_op (e := .bin op ca cb) fun _ _ => by rw [ev])

/-! ### comparisons -/
def cmpOf : COp → CmpOp
  | .lt => .Lt
  | .le => .LtE
  | .gt => .Gt
  | .ge => .GtE
  | .eq => .Eq
  | .ne => .NotEq
  | .isN => .Is
  | .notN => .IsNot
  | .isin => .In
  | .notin => .NotIn
theorem VD.non {K : Fg} {F : FS} {H : Hp} {x : PyData} {v : V} (h : VD K F H x v) : v = .non ↔ x = .none := by
  constructor
  · rintro rfl
    cases x with
    | none => rfl
    | bool _ => unfold VD RD at h; cases h
    | int _ => unfold VD RD at h; cases h
    | str _ => unfold VD RD at h; cases h
    | list _ => obtain ⟨a, vs, e, _⟩ := h; cases e
    | tuple _ => obtain ⟨a, vs, e, _⟩ := RD.tup h; cases e
    | dict _ => unfold VD RD at h; obtain ⟨_, a, e, _⟩ := h; cases e
  · rintro rfl
    unfold VD RD at h; exact h
def isNone : PyData → Bool
  | .none => true
  | _ => false
theorem VD.decN {K : Fg} {F : FS} {H : Hp} {x : PyData} {v : V} (h : VD K F H x v) : decide (v = .non) = isNone x := by
  by_cases hx : x = .none
  · rw [decide_eq_true (h.non.mpr hx), hx]; rfl
  · rw [decide_eq_false fun e => hx (h.non.mp e)]
    cases x <;> first | rfl | exact absurd rfl hx
theorem opr_cmp (op : COp) (hu : X.A.units + 200 < cLine) : OpR X (compareOp (cmpOf op)) (rOp false X.K fun x y => (cmpD op x y).map PyData.bool) := by
  intro pins s σ H v u vv uu Q I rx ry h
  obtain ⟨φ, F, S, x, y, z, hl, h1, h2, e0, out⟩ := h
  have e0 : Option.map PyData.bool (cmpD op x y) = some z := e0
  obtain ⟨k, e, hk⟩ := Option.map_eq_some_iff.mp e0
  clear e0
  subst hk
  have out : Q (.bl k) H := out_any hl (.bool _) out
  have intq : ∀ {i j : Int} {p : Int → Int → Bool}, x = .int i → y = .int j → k = p i j → (OpR X (compareOp (cmpOf op)) (rI0 fun i j => .bl (p i j))) → wpAny (model X.prog X.w) X.A (compareOp (cmpOf op) vv uu) (EP X pins σ Q) X.xe s := by
    rintro i j p rfl rfl rfl hop
    exact hop pins s σ H v u vv uu Q I rx ry ⟨i, j, h1.intD rfl, h2.intD rfl, out⟩
  cases op with
  | lt =>
    cases x with
    | int i =>
      cases y with
      | int j => simp only [cmpD, Option.some.injEq] at e; exact intq rfl rfl e.symm op_lt
      | _ => simp [cmpD] at e
    | _ => simp [cmpD] at e
  | le =>
    cases x with
    | int i =>
      cases y with
      | int j => simp only [cmpD, Option.some.injEq] at e; exact intq rfl rfl e.symm op_le
      | _ => simp [cmpD] at e
    | _ => simp [cmpD] at e
  | gt =>
    cases x with
    | int i =>
      cases y with
      | int j => simp only [cmpD, Option.some.injEq] at e; exact intq rfl rfl e.symm op_gt
      | _ => simp [cmpD] at e
    | _ => simp [cmpD] at e
  | ge =>
    cases x with
    | int i =>
      cases y with
      | int j => simp only [cmpD, Option.some.injEq] at e; exact intq rfl rfl e.symm op_ge
      | _ => simp [cmpD] at e
    | _ => simp [cmpD] at e
  | eq =>
    simp only [cmpD] at e
    split at e
    · rename_i hs
      simp only [Bool.and_eq_true] at hs
      simp only [Option.some.injEq] at e; subst e
      exact op_eqD (by omega) pins s σ H v u vv uu Q I rx ry ⟨x, y, h1.dp' (shp_nd 12 _ hs.1), h2.dp' (shp_nd 12 _ hs.2), shaped_of hs.1, shaped_of hs.2, out⟩
    · cases e
  | ne =>
    simp only [cmpD] at e
    split at e
    · rename_i hs
      simp only [Bool.and_eq_true] at hs
      simp only [Option.some.injEq] at e; subst e
      exact op_neD (by omega) pins s σ H v u vv uu Q I rx ry ⟨x, y, h1.dp' (shp_nd 12 _ hs.1), h2.dp' (shp_nd 12 _ hs.2), shaped_of hs.1, shaped_of hs.2, out⟩
    · cases e
  | isN =>
    cases y with
    | none =>
      simp only [cmpD, Option.some.injEq] at e
      refine op_isN pins s σ H v u vv uu Q I rx ry ⟨h2.non.mpr rfl, ?_⟩
      have : decide (v = .non) = k := by
        rw [← e, h1.decN]
        cases x <;> rfl
      rw [this]; exact out
    | bool c =>
      cases x with
      | bool d =>
        simp only [cmpD, Option.some.injEq] at e
        have e1 : v = .bl d := by unfold VD RD at h1; exact h1
        have e2 : u = .bl c := by unfold VD RD at h2; exact h2
        subst e
        exact op_isBl pins s σ H v u vv uu Q I rx ry ⟨d, c, e1, e2, out⟩
      | _ => simp [cmpD] at e
    | _ => simp [cmpD] at e
  | notN =>
    cases y with
    | none =>
      simp only [cmpD, Option.some.injEq] at e
      refine op_notN pins s σ H v u vv uu Q I rx ry ⟨h2.non.mpr rfl, ?_⟩
      have : (!decide (v = .non)) = k := by
        rw [← e, h1.decN]
        cases x <;> rfl
      rw [this]; exact out
    | bool c =>
      cases x with
      | bool d =>
        simp only [cmpD, Option.some.injEq] at e
        have e1 : v = .bl d := by unfold VD RD at h1; exact h1
        have e2 : u = .bl c := by unfold VD RD at h2; exact h2
        subst e
        exact op_notBl pins s σ H v u vv uu Q I rx ry ⟨d, c, e1, e2, out⟩
      | _ => simp [cmpD] at e
    | _ => simp [cmpD] at e
  | isin =>
    obtain ⟨xs, hx⟩ : ∃ xs, Cr.items y = some xs := by
      cases hy : Cr.items y with
      | none => simp [cmpD, hy] at e
      | some xs => exact ⟨xs, rfl⟩
    simp only [cmpD, hx] at e
    split at e
    · rename_i hs
      simp only [Bool.and_eq_true] at hs
      simp only [Option.some.injEq] at e; subst e
      have nd2 : y.hasDict = false := by
        cases y <;> simp [Cr.items] at hx
        all_goals subst hx; exact shpAll_nd 12 _ hs.2
      obtain ⟨as, r1⟩ := Dp.reads I _ _ _ (h1.dp' (shp_nd 12 _ hs.1)) rx
      obtain ⟨bs, r2⟩ := Dp.reads I _ _ _ (h2.dp' nd2) ry
      have q1 := shp_ok 12 x hs.1
      have q2 := shpAll_ok 12 xs hs.2
      have fin : EP X pins σ Q (.bool (xs.any fun y => PyData.eqv y x)) s := ⟨.bl _, H, I, rfl, out⟩
      cases y with
      | list ys => simp [Cr.items] at hx; subst hx; exact SeqAt.in_list_reads r2 r1 q2.1 q1.1 (by omega) fin
      | tuple ys => simp [Cr.items] at hx; subst hx; exact SeqAt.in_tuple_reads r2 r1 q2.1 q1.1 (by omega) fin
      | _ => simp [Cr.items] at hx
    · cases e
  | notin =>
    obtain ⟨xs, hx⟩ : ∃ xs, Cr.items y = some xs := by
      cases hy : Cr.items y with
      | none => simp [cmpD, hy] at e
      | some xs => exact ⟨xs, rfl⟩
    simp only [cmpD, hx] at e
    split at e
    · rename_i hs
      simp only [Bool.and_eq_true] at hs
      simp only [Option.some.injEq] at e; subst e
      have nd2 : y.hasDict = false := by
        cases y <;> simp [Cr.items] at hx
        all_goals subst hx; exact shpAll_nd 12 _ hs.2
      obtain ⟨as, r1⟩ := Dp.reads I _ _ _ (h1.dp' (shp_nd 12 _ hs.1)) rx
      obtain ⟨bs, r2⟩ := Dp.reads I _ _ _ (h2.dp' nd2) ry
      have q1 := shp_ok 12 x hs.1
      have q2 := shpAll_ok 12 xs hs.2
      have fin : EP X pins σ Q (.bool (!(xs.any fun y => PyData.eqv y x))) s := ⟨.bl _, H, I, rfl, out⟩
      cases y with
      | list ys => simp [Cr.items] at hx; subst hx; exact SeqAt.notIn_list_reads r2 r1 q2.1 q1.1 (by omega) fin
      | tuple ys => simp [Cr.items] at hx; subst hx; exact SeqAt.notIn_tuple_reads r2 r1 q2.1 q1.1 (by omega) fin
      | _ => simp [Cr.items] at hx
    · cases e
/-- no set display behind in -/
def noSet : Expr → Bool
  | .Set _ _ _ => false
  | _ => true
theorem noSet_ok {b : Expr} (h : noSet b = true) (op : CmpOp) : behindInMarks op b = false := by
  cases b <;> first | rfl | (simp [noSet] at h)
theorem r_cmp {op : COp} (hu : X.A.units + 200 < cLine) (hs : noSet b = true) (ha : PE X a (tE X.K P ca)) (hb : PE X b (tE X.K P cb)) : PE X (.Compare a [cmpOf op] [b] pos) (tE X.K P (.cmp op ca cb)) :=
  PE.imp (pe_cmpR (opr_cmp op hu) ha hb (noSet_ok hs _)) (to_opB (e := .cmp op ca cb) fun _ _ => by rw [ev])
theorem r_cmpT {op : COp} (hu : X.A.units + 200 < cLine) (hs : noSet b = true) (ha : PE X a (tE X.K P ca)) (hb : PE X b (tE X.K P cb)) : PT X (.Compare a [cmpOf op] [b] pos) (tT X.K P (.cmp op ca cb)) :=
  PT.imp (pt_cmpR (opr_cmp op hu) ha hb (noSet_ok hs _)) (to_opT (e := .cmp op ca cb) fun _ _ => by rw [ev])
end
end Cr

/-! ## CrD -/
set_option Elab.async false
set_option linter.all false
set_option autoImplicit false
set_option maxRecDepth 100000
set_option maxHeartbeats 4000000
/-! CrD: further expressions: names, constants, truth, subscripts, slices, displays, arguments. -/
namespace Cr
open PySem PySem.Spec L2

section
variable {K : Fg} {φ : Phi} {F : FS} {H : Hp}
theorem rp_int (i : Int) : RP K φ F H (.d (.int i)) (.int i) := RD.int (K := K) (F := F) (H := H) i
theorem rp_bool (i : Bool) : RP K φ F H (.d (.bool i)) (.bl i) := RD.bool (K := K) (F := F) (H := H) i
theorem rp_none : RP K φ F H (.d .none) .non := RD.none (K := K) (F := F) (H := H)
end
section
variable {X : Cx} {P : Prm} {pos : Pos} {a b c : Expr} {ca cb cc : CE}
theorem r_var {i : Nat} {x : Str} (hN : X.N[i]? = some x) (hv : Vis X.env.scope x) (hd : (x == ("__debug__" : Str)) = false) (hcd : (x == ("__classdict__" : Str)) = false) : PE X (.Name x pos) (tE X.K P (.var i)) := by
  refine PE.imp (pe_var hN hv hd hcd) fun σ H Q h => ?_
  obtain ⟨φ, F, ρ, S, hl, hρ, pv, S', e, q⟩ := h
  rw [ev] at e
  obtain ⟨w, e1, e2⟩ := Option.map_eq_some_iff.mp e
  cases e2
  have e1 : ρ[i]? = some (some pv) := by
    cases h : ρ[i]? with
    | none => rw [h] at e1; simp at e1
    | some o => rw [h] at e1; simp at e1; rw [e1]
  obtain ⟨v, e2, r⟩ := hρ.get i pv e1
  exact ⟨v, e2, q φ F H v Stp.refl hl r (fun e => nomatch e)⟩
/-- flat constants -/
def cstOf : Const → Option PyData
  | .none => some .none
  | .bool b => some (.bool b)
  | .int i => some (.int i)
  | .str s => some (.str s)
  | _ => none
theorem r_cst {k : Const} {x : PyData} {j : Nat} (h : cstOf k = some x) : PE X (.Constant k j pos) (tE X.K P (.cst x)) := by
  have fin : ∀ {v : V} (σ : St) (H : Hp) (Q : VK), (∀ F, RD X.K F H x v) → tE X.K P (.cst x) σ H Q → tC v σ H Q := fun {v} σ H Q r h => by
    obtain ⟨φ, F, ρ, S, hl, hρ, pv, S', e, q⟩ := h
    rw [ev] at e
    cases e
    exact q φ F H v Stp.refl hl (r F) (fun e => nomatch e)
  cases k with
  | none => simp [cstOf] at h; subst h; exact PE.imp pe_non fun σ H Q => fin σ H Q fun _ => by unfold RD; rfl
  | bool b => simp [cstOf] at h; subst h; exact PE.imp pe_bl fun σ H Q => fin σ H Q fun _ => by unfold RD; rfl
  | int b => simp [cstOf] at h; subst h; exact PE.imp pe_int fun σ H Q => fin σ H Q fun _ => by unfold RD; rfl
  | str b => simp [cstOf] at h; subst h; exact PE.imp pe_str fun σ H Q => fin σ H Q fun _ => by unfold RD; rfl
  | _ => simp [cstOf] at h
theorem r_neg (ha : PE X a (tE X.K P ca)) : PE X (.UnaryOp .USub a pos) (tE X.K P (.neg ca)) := by
  refine PE.imp (pe_un un_neg ha) fun σ H Q h => ?_
  obtain ⟨φ, F, ρ, S, hl, hρ, pv, S', e, q⟩ := h
  rw [ev] at e
  obtain ⟨z, e0, rfl⟩ := of_vd e
  obtain ⟨pv, x, e1, e2, e3⟩ := of_op1 e0
  obtain ⟨i, e4, rfl⟩ := Option.map_eq_some_iff.mp e3
  refine ⟨φ, F, ρ, S, hl, hρ, pv, S', e1, fun φ1 F1 H1 v st1 hl1 r1 _ => ?_⟩
  exact ⟨i, (VD.deref hl1 r1 e2).intD e4, q φ1 F1 H1 _ st1 hl1 (rp_int _) (fun e => nomatch e)⟩
theorem VD.tru {K : Fg} {F : FS} {H : Hp} {x : PyData} {v : V} {k : Bool} (h : VD K F H x v) (e : truD x = some k) : TruV K v H k := by
  cases x with
  | none => unfold VD RD at h; subst h; simp only [truD, Option.some.injEq] at e; exact e.symm
  | bool b => unfold VD RD at h; subst h; simp only [truD, Option.some.injEq] at e; exact e.symm
  | int i => unfold VD RD at h; subst h; simp only [truD, Option.some.injEq] at e; exact e.symm
  | list xs =>
    obtain ⟨a, vs, rfl, h1, h2⟩ := h
    simp only [truD, Option.some.injEq] at e
    refine .inl ⟨vs, h1, ?_⟩
    rw [← e]
    cases xs <;> cases vs <;> first | rfl | (have := h2.length; simp at this)
  | tuple xs =>
    obtain ⟨a, vs, rfl, h1, h2⟩ := RD.tup h
    simp only [truD, Option.some.injEq] at e
    refine .inr (.inl ⟨vs, h1, ?_⟩)
    rw [← e]
    cases xs <;> cases vs <;> first | rfl | (have := h2.length; simp at this)
  | _ => simp [truD] at e
/-- a value's test -/
theorem r_tru (ha : PE X a (tE X.K P ca)) (he : ∀ whole, isTrue a X.env whole = (do let v ← whole; standAt a.pos; holding [v] (truthy v))) : PT X a (tT X.K P ca) := by
  refine PT.imp (pt_truth ha he) fun σ H Q h => ?_
  obtain ⟨φ, F, ρ, S, hl, hρ, k, S', e, q⟩ := h
  obtain ⟨pv, x, e1, e2, e3⟩ := of_op1 e
  exact ⟨φ, F, ρ, S, hl, hρ, pv, S', e1, fun φ1 F1 H1 v st1 hl1 r1 _ => ⟨k, (VD.deref hl1 r1 e2).tru e3, q φ1 F1 H1 st1 hl1⟩⟩
theorem r_not (ha : PE X a (tE X.K P ca)) : PE X (.UnaryOp .Not a pos) (tE X.K P (.not ca)) := by
  refine PE.imp (pe_notT ha) fun σ H Q h => ?_
  obtain ⟨φ, F, ρ, S, hl, hρ, pv, S', e, q⟩ := h
  rw [ev] at e
  obtain ⟨z, e0, rfl⟩ := of_vb e
  obtain ⟨pv, x, e1, e2, e3⟩ := of_op1 e0
  obtain ⟨k, e4, rfl⟩ := Option.map_eq_some_iff.mp e3
  refine ⟨φ, F, ρ, S, hl, hρ, pv, S', e1, fun φ1 F1 H1 v st1 hl1 r1 _ => ?_⟩
  exact ⟨k, (VD.deref hl1 r1 e2).tru e4, q φ1 F1 H1 _ st1 hl1 (rp_bool _) (fun e => nomatch e)⟩
theorem r_notT (ha : PT X a (tT X.K P ca)) : PT X (.UnaryOp .Not a pos) (tT X.K P (.not ca)) := by
  refine PT.imp (pt_not ha) fun σ H Q h => ?_
  obtain ⟨φ, F, ρ, S, hl, hρ, k, S', e, q⟩ := h
  obtain ⟨pv, x, e1, e2, e3⟩ := of_op1 e
  rw [ev] at e1
  obtain ⟨z, e0, rfl⟩ := of_vb e1
  simp only [Cr.deref, Option.some.injEq] at e2; subst e2
  simp only [truD, Option.some.injEq] at e3; subst e3
  obtain ⟨pv', x', e4, e5, e6⟩ := of_op1 e0
  obtain ⟨k, e7, rfl⟩ := Option.map_eq_some_iff.mp e6
  exact ⟨φ, F, ρ, S, hl, hρ, k, S', by unfold op1; rw [e4]; simp [e5, e7], q⟩
/-- and, or as values -/
theorem r_and {rest : List Expr} (ha : PE X a (tE X.K P ca)) (hb : PE X (.BoolOp .And (b :: rest) pos) (tE X.K P cb)) : PE X (.BoolOp .And (a :: b :: rest) pos) (tE X.K P (.and ca cb)) := by
  refine PE.imp (pe_andT ha hb) fun σ H Q h => ?_
  obtain ⟨φ, F, ρ, S, hl, hρ, pv, S', e, q⟩ := h
  rw [ev] at e
  obtain ⟨⟨pa, S1⟩, e1, e⟩ := Option.bind_eq_some_iff.mp e
  obtain ⟨x, e2, e⟩ := Option.bind_eq_some_iff.mp e
  obtain ⟨k, e3, e⟩ := Option.bind_eq_some_iff.mp e
  refine ⟨φ, F, ρ, S, hl, hρ, pa, S1, e1, fun φ1 F1 H1 v st1 hl1 r1 _ => ⟨k, (VD.deref hl1 r1 e2).tru e3, ?_⟩⟩
  cases k with
  | true =>
    simp only [if_true] at e ⊢
    exact ⟨φ1, F1, ρ, S1, hl1, hρ.step st1 hl, pv, S', e, fun φ2 F2 H2 w st2 hl2 r2 _ => q φ2 F2 H2 w (st1.trans st2) hl2 r2 (fun e => nomatch e)⟩
  | false =>
    simp only [Bool.false_eq_true, if_false] at e ⊢
    cases e
    exact q φ1 F1 H1 v st1 hl1 r1 (fun e => nomatch e)
theorem r_or {rest : List Expr} (ha : PE X a (tE X.K P ca)) (hb : PE X (.BoolOp .Or (b :: rest) pos) (tE X.K P cb)) : PE X (.BoolOp .Or (a :: b :: rest) pos) (tE X.K P (.or ca cb)) := by
  refine PE.imp (pe_orT ha hb) fun σ H Q h => ?_
  obtain ⟨φ, F, ρ, S, hl, hρ, pv, S', e, q⟩ := h
  rw [ev] at e
  obtain ⟨⟨pa, S1⟩, e1, e⟩ := Option.bind_eq_some_iff.mp e
  obtain ⟨x, e2, e⟩ := Option.bind_eq_some_iff.mp e
  obtain ⟨k, e3, e⟩ := Option.bind_eq_some_iff.mp e
  refine ⟨φ, F, ρ, S, hl, hρ, pa, S1, e1, fun φ1 F1 H1 v st1 hl1 r1 _ => ⟨k, (VD.deref hl1 r1 e2).tru e3, ?_⟩⟩
  cases k with
  | false =>
    simp only [Bool.false_eq_true, if_false] at e ⊢
    exact ⟨φ1, F1, ρ, S1, hl1, hρ.step st1 hl, pv, S', e, fun φ2 F2 H2 w st2 hl2 r2 _ => q φ2 F2 H2 w (st1.trans st2) hl2 r2 (fun e => nomatch e)⟩
  | true =>
    simp only [if_true] at e ⊢
    cases e
    exact q φ1 F1 H1 v st1 hl1 r1 (fun e => nomatch e)
/-- .. as tests -/
theorem PW.imp {e : Expr} {t t' : TT} (h : PW X e t) (i : ∀ σ H Q, t' σ H Q → t σ H Q) : PW X e t' := ⟨fun wh pins s σ H Q I q => h.run wh pins s σ H Q I (i σ H Q q)⟩
theorem of_andT {ρ : Ev} {S S' : Store} {k : Bool} (h : op1 (ev P (.and ca cb) ρ S) truD = some (k, S')) :
    ∃ c S1, op1 (ev P ca ρ S) truD = some (c, S1) ∧ ((c = true ∧ op1 (ev P cb ρ S1) truD = some (k, S')) ∨ (c = false ∧ k = false ∧ S1 = S')) := by
  obtain ⟨pv, x, e, e2, e3⟩ := of_op1 h
  rw [ev] at e
  obtain ⟨⟨pa, S1⟩, e1, e⟩ := Option.bind_eq_some_iff.mp e
  obtain ⟨y, e4, e⟩ := Option.bind_eq_some_iff.mp e
  obtain ⟨c, e5, e⟩ := Option.bind_eq_some_iff.mp e
  refine ⟨c, S1, by unfold op1; rw [e1]; simp [e4, e5], ?_⟩
  cases c with
  | true =>
    simp only [if_true] at e
    exact .inl ⟨rfl, by unfold op1; rw [e]; simp [e2, e3]⟩
  | false =>
    simp only [Bool.false_eq_true, if_false] at e
    cases e
    rw [e4] at e2; cases e2
    rw [e5] at e3; cases e3
    exact .inr ⟨rfl, rfl, rfl⟩
theorem of_orT {ρ : Ev} {S S' : Store} {k : Bool} (h : op1 (ev P (.or ca cb) ρ S) truD = some (k, S')) :
    ∃ c S1, op1 (ev P ca ρ S) truD = some (c, S1) ∧ ((c = false ∧ op1 (ev P cb ρ S1) truD = some (k, S')) ∨ (c = true ∧ k = true ∧ S1 = S')) := by
  obtain ⟨pv, x, e, e2, e3⟩ := of_op1 h
  rw [ev] at e
  obtain ⟨⟨pa, S1⟩, e1, e⟩ := Option.bind_eq_some_iff.mp e
  obtain ⟨y, e4, e⟩ := Option.bind_eq_some_iff.mp e
  obtain ⟨c, e5, e⟩ := Option.bind_eq_some_iff.mp e
  refine ⟨c, S1, by unfold op1; rw [e1]; simp [e4, e5], ?_⟩
  cases c with
  | false =>
    simp only [Bool.false_eq_true, if_false] at e
    exact .inl ⟨rfl, by unfold op1; rw [e]; simp [e2, e3]⟩
  | true =>
    simp only [if_true] at e
    cases e
    rw [e4] at e2; cases e2
    rw [e5] at e3; cases e3
    exact .inr ⟨rfl, rfl, rfl⟩
theorem r_andT {rest : List Expr} (ha : PT X a (tT X.K P ca)) (hb : PW X (.BoolOp .And (b :: rest) pos) (tT X.K P cb)) : PW X (.BoolOp .And (a :: b :: rest) pos) (tT X.K P (.and ca cb)) := by
  refine PW.imp (pw_and ha hb) fun σ H Q h => ?_
  obtain ⟨φ, F, ρ, S, hl, hρ, k, S', e, q⟩ := h
  obtain ⟨c, S1, e1, h⟩ := of_andT e
  refine ⟨φ, F, ρ, S, hl, hρ, c, S1, e1, fun φ1 F1 H1 st1 hl1 => ?_⟩
  rcases h with ⟨rfl, e2⟩ | ⟨rfl, rfl, rfl⟩
  · simp only [if_true]
    exact ⟨φ1, F1, ρ, S1, hl1, hρ.step st1 hl, k, S', e2, fun φ2 F2 H2 st2 hl2 => q φ2 F2 H2 (st1.trans st2) hl2⟩
  · simp only [Bool.false_eq_true, if_false]
    exact q φ1 F1 H1 st1 hl1
theorem r_orT {rest : List Expr} (ha : PT X a (tT X.K P ca)) (hb : PW X (.BoolOp .Or (b :: rest) pos) (tT X.K P cb)) : PW X (.BoolOp .Or (a :: b :: rest) pos) (tT X.K P (.or ca cb)) := by
  refine PW.imp (pw_or ha hb) fun σ H Q h => ?_
  obtain ⟨φ, F, ρ, S, hl, hρ, k, S', e, q⟩ := h
  obtain ⟨c, S1, e1, h⟩ := of_orT e
  refine ⟨φ, F, ρ, S, hl, hρ, c, S1, e1, fun φ1 F1 H1 st1 hl1 => ?_⟩
  rcases h with ⟨rfl, e2⟩ | ⟨rfl, rfl, rfl⟩
  · simp only [Bool.false_eq_true, if_false]
    exact ⟨φ1, F1, ρ, S1, hl1, hρ.step st1 hl, k, S', e2, fun φ2 F2 H2 st2 hl2 => q φ2 F2 H2 (st1.trans st2) hl2⟩
  · simp only [if_true]
    exact q φ1 F1 H1 st1 hl1
theorem of_ite {ρ : Ev} {S S' : Store} {pv : PV} (h : ev P (.ite cc ca cb) ρ S = some (pv, S')) : ∃ k S1, op1 (ev P cc ρ S) truD = some (k, S1) ∧ (if k = true then ev P ca ρ S1 else ev P cb ρ S1) = some (pv, S') := by
  rw [ev] at h
  obtain ⟨⟨k, S1⟩, e1, e⟩ := Option.bind_eq_some_iff.mp h
  exact ⟨k, S1, e1, e⟩
theorem r_ite (hc : PT X c (tT X.K P cc)) (ha : PE X a (tE X.K P ca)) (hb : PE X b (tE X.K P cb)) : PE X (.IfExp c a b pos) (tE X.K P (.ite cc ca cb)) := by
  refine PE.imp (pe_ifExp hc ha hb) fun σ H Q h => ?_
  obtain ⟨φ, F, ρ, S, hl, hρ, pv, S', e, q⟩ := h
  obtain ⟨k, S1, e1, e⟩ := of_ite e
  refine ⟨φ, F, ρ, S, hl, hρ, k, S1, e1, fun φ1 F1 H1 st1 hl1 => ?_⟩
  cases k with
  | true =>
    simp only [if_true] at e ⊢
    exact ⟨φ1, F1, ρ, S1, hl1, hρ.step st1 hl, pv, S', e, fun φ2 F2 H2 w st2 hl2 r2 _ => q φ2 F2 H2 w (st1.trans st2) hl2 r2 (fun e => nomatch e)⟩
  | false =>
    simp only [Bool.false_eq_true, if_false] at e ⊢
    exact ⟨φ1, F1, ρ, S1, hl1, hρ.step st1 hl, pv, S', e, fun φ2 F2 H2 w st2 hl2 r2 _ => q φ2 F2 H2 w (st1.trans st2) hl2 r2 (fun e => nomatch e)⟩
theorem r_iteT (hc : PT X c (tT X.K P cc)) (ha : PT X a (tT X.K P ca)) (hb : PT X b (tT X.K P cb)) : PT X (.IfExp c a b pos) (tT X.K P (.ite cc ca cb)) := by
  refine ⟨fun pins s σ H Q I h => ?_⟩
  obtain ⟨φ, F, ρ, S, hl, hρ, k, S', e, q⟩ := h
  obtain ⟨pv, x, e, e2, e3⟩ := of_op1 e
  obtain ⟨c, S1, e1, e⟩ := of_ite e
  show wpAny _ _ (do if ← isTrue _ X.env (eval _ X.env) then isTrue a X.env (eval a X.env) else isTrue b X.env (eval b X.env)) _ _ _
  refine wpAny_bind (thn (hc.run pins s σ H (fun d H1 => if d = true then tT X.K P ca σ H1 Q else tT X.K P cb σ H1 Q) I ⟨φ, F, ρ, S, hl, hρ, c, S1, e1, fun φ1 F1 H1 st1 hl1 => ?_⟩) fun d s1 ⟨H1, I1, q1⟩ => ?_)
  · cases c with
    | true =>
      simp only [if_true] at e ⊢
      exact ⟨φ1, F1, ρ, S1, hl1, hρ.step st1 hl, k, S', by unfold op1; rw [e]; simp [e2, e3], fun φ2 F2 H2 st2 hl2 => q φ2 F2 H2 (st1.trans st2) hl2⟩
    | false =>
      simp only [Bool.false_eq_true, if_false] at e ⊢
      exact ⟨φ1, F1, ρ, S1, hl1, hρ.step st1 hl, k, S', by unfold op1; rw [e]; simp [e2, e3], fun φ2 F2 H2 st2 hl2 => q φ2 F2 H2 (st1.trans st2) hl2⟩
  · cases d with
    | true => exact ha.run pins s1 σ H1 Q I1 q1
    | false => exact hb.run pins s1 σ H1 Q I1 q1
/-- a op1 b op2 c -/
def rCmp (K : Fg) (op : COp) : R2 := rOp false K fun x y => (cmpD op x y).map PyData.bool
theorem to_chain {op1 op2 : COp} (σ : St) (H : Hp) (Q : VK) (h : tE X.K P (.chain op1 op2 ca cb cc) σ H Q) :
    tChain (rCmp X.K op1) (rCmp X.K op2) (tE X.K P ca) (tE X.K P cb) (tE X.K P cc) σ H Q := by
  obtain ⟨φ, F, ρ, S, hl, hρ, pv, S', e, q⟩ := h
  rw [ev] at e
  obtain ⟨⟨pa, S1⟩, e1, e⟩ := Option.bind_eq_some_iff.mp e
  obtain ⟨⟨pb, S2⟩, e2, e⟩ := Option.bind_eq_some_iff.mp e
  obtain ⟨x, e3, e⟩ := Option.bind_eq_some_iff.mp e
  obtain ⟨y, e4, e⟩ := Option.bind_eq_some_iff.mp e
  obtain ⟨k, e5, e⟩ := Option.bind_eq_some_iff.mp e
  refine ⟨φ, F, ρ, S, hl, hρ, pa, S1, e1, fun φ1 F1 H1 v st1 hl1 r1 _ => ?_⟩
  refine ⟨φ1, F1, ρ, S1, hl1, hρ.step st1 hl, pb, S2, e2, fun φ2 F2 H2 u st2 hl2 r2 _ => ?_⟩
  refine ⟨φ2, F2, S2, x, y, .bool k, hl2, VD.deref hl2 (r1.step st2 hl1) e3, VD.deref hl2 r2 e4, by show Option.map PyData.bool (cmpD op1 x y) = _; rw [e5]; rfl, fun H3 w st3 hl3 r3 _ => ⟨k, ?_, ?_⟩⟩
  · have r3 : RD X.K F2 H3 (.bool k) w := r3
    unfold RD at r3; exact r3
  · have st' := (st1.trans st2).trans st3
    cases k with
    | true =>
      simp only [if_true] at e ⊢
      obtain ⟨⟨pc, S3⟩, e6, e⟩ := Option.bind_eq_some_iff.mp e
      obtain ⟨y', e7, e⟩ := Option.bind_eq_some_iff.mp e
      obtain ⟨z, e8, e⟩ := Option.bind_eq_some_iff.mp e
      obtain ⟨k', e9, e⟩ := Option.map_eq_some_iff.mp e
      cases e
      refine ⟨φ2, F2, ρ, S2, hl3, hρ.step st' hl, pc, S3, e6, fun φ4 F4 H4 w4 st4 hl4 r4 _ => ?_⟩
      refine ⟨φ4, F4, S3, y', z, .bool k', hl4, VD.deref hl4 ((r2.step st3 hl2).step st4 hl3) e7, VD.deref hl4 r4 e8, by show Option.map PyData.bool (cmpD op2 y' z) = _; rw [e9]; rfl, fun H5 w5 st5 hl5 r5 _ => ?_⟩
      exact q φ4 F4 H5 w5 ((st'.trans st4).trans st5) hl5 r5 (fun e => nomatch e)
    | false =>
      simp only [Bool.false_eq_true, if_false] at e ⊢
      cases e
      exact q φ2 F2 H3 _ st' hl3 (rp_bool _) (fun e => nomatch e)
theorem r_chain {op1 op2 : COp} (hu : X.A.units + 200 < cLine) (hm : noSet c = true) (ha : PE X a (tE X.K P ca)) (hb : PE X b (tE X.K P cb)) (hc : PE X c (tE X.K P cc)) :
    PE X (.Compare a [cmpOf op1, cmpOf op2] [b, c] pos) (tE X.K P (.chain op1 op2 ca cb cc)) :=
  PE.imp (pe_chain (opr_cmp op1 hu) (opr_cmp op2 hu) ha hb hc (noSet_ok hm _)) to_chain
theorem r_chainT {op1 op2 : COp} (hu : X.A.units + 200 < cLine) (hm : noSet c = true) (ha : PE X a (tE X.K P ca)) (hb : PE X b (tE X.K P cb)) (hc : PE X c (tE X.K P cc)) :
    PT X (.Compare a [cmpOf op1, cmpOf op2] [b, c] pos) (tT X.K P (.chain op1 op2 ca cb cc)) := by
  refine PT.imp (pt_chain (opr_cmp op1 hu) (opr_cmp op2 hu) ha hb hc (noSet_ok hm _)) fun σ H Q h => ?_
  obtain ⟨φ, F, ρ, S, hl, hρ, k, S', e, q⟩ := h
  obtain ⟨pv, x, e1, e2, e3⟩ := of_op1 e
  refine to_chain σ H _ ⟨φ, F, ρ, S, hl, hρ, pv, S', e1, fun φ' F' H' v st hl' r _ => ?_⟩
  have hb : ∃ b, pv = .d (.bool b) := by
    rw [ev] at e1
    obtain ⟨⟨pa, S1⟩, _, e⟩ := Option.bind_eq_some_iff.mp e1
    obtain ⟨⟨pb, S2⟩, _, e⟩ := Option.bind_eq_some_iff.mp e
    obtain ⟨x, _, e⟩ := Option.bind_eq_some_iff.mp e
    obtain ⟨y, _, e⟩ := Option.bind_eq_some_iff.mp e
    obtain ⟨k, _, e⟩ := Option.bind_eq_some_iff.mp e
    cases k with
    | true =>
      simp only [if_true] at e
      obtain ⟨⟨pc, S3⟩, _, e⟩ := Option.bind_eq_some_iff.mp e
      obtain ⟨y', _, e⟩ := Option.bind_eq_some_iff.mp e
      obtain ⟨z, _, e⟩ := Option.bind_eq_some_iff.mp e
      obtain ⟨k', _, e⟩ := Option.map_eq_some_iff.mp e
      cases e; exact ⟨_, rfl⟩
    | false =>
      simp only [Bool.false_eq_true, if_false] at e
      cases e; exact ⟨_, rfl⟩
  obtain ⟨b, rfl⟩ := hb
  simp only [Cr.deref, Option.some.injEq] at e2; subst e2
  simp only [truD, Option.some.injEq] at e3; subst e3
  exact ⟨b, r, q φ' F' H' st hl'⟩

/-! ### subscripts, slices -/
theorem opr_ix : IxR X (rOp false X.K ixD) := by
  intro value slice pins s σ H x y v u Q I rx ry h hs
  obtain ⟨φ, F, S, d, i, z, hl, h1, h2, e, out⟩ := h
  cases i with
  | int k =>
    simp only [ixD] at e
    obtain ⟨xs, e1, e⟩ := Option.bind_eq_some_iff.mp e
    obtain ⟨j, e2, e⟩ := Option.bind_eq_some_iff.mp e
    have ey : y = .int k := h2.intD rfl
    subst ey
    cases d with
    | list ys =>
      simp [Cr.items] at e1; subst e1
      obtain ⟨p, vs, rfl, g1, g2⟩ := h1
      obtain ⟨w, ew, rw⟩ := g2.get e
      refine ix_list value slice pins s σ H _ _ v u Q I rx ry ⟨p, vs, k, w, rfl, rfl, g1, ?_, out_any hl rw out⟩ hs
      unfold atI
      rw [show L2.ixN vs.length k = some j by rw [← g2.length]; exact e2]
      exact ew
    | tuple ys =>
      simp [Cr.items] at e1; subst e1
      obtain ⟨p, vs, rfl, g1, g2⟩ := RD.tup h1
      obtain ⟨w, ew, rw⟩ := g2.get e
      refine ix_tup value slice pins s σ H _ _ v u Q I rx ry ⟨p, vs, k, w, rfl, rfl, g1, ?_, out_any hl rw out⟩ hs
      unfold atI
      rw [show L2.ixN vs.length k = some j by rw [← g2.length]; exact e2]
      exact ew
    | _ => simp [Cr.items] at e1
  | _ => simp [ixD] at e
/-- a plain index -/
def plainIx : Expr → Bool
  | .Slice _ _ _ _ => false
  | _ => true
theorem plainIx_ok {b : Expr} (h : plainIx b = true) : PlainIx b := by
  intro o i
  cases b <;> first | rfl | (simp [plainIx] at h)
theorem r_ix (hs : plainIx b = true) (ha : PE X a (tE X.K P ca)) (hb : PE X b (tE X.K P cb)) : PE X (.Subscript a b pos) (tE X.K P (.ix ca cb)) :=
  PE.imp (pe_ix opr_ix ha hb (plainIx_ok hs)) (to_op (e := .ix ca cb) fun _ _ => by rw [ev])
def rSl (K : Fg) : V → Option Int → Option Int → Hp → VK → Prop := fun v lo hi H Q => ∃ φ F S x z, Rl K φ F S H ∧ VD K F H x v ∧ slD x lo hi = some z ∧ rOut true K φ F S H z Q
theorem sIx_eq (n d : Nat) (o : Option Int) : HT.sIx n d o = Cr.sIx n d o := by cases o <;> rfl
theorem cut_rds {K : Fg} {F : FS} {H : Hp} {xs : List PyData} {vs : List V} (lo hi : Option Int) (h : RDs K F H xs vs) : RDs K F H (cut xs lo hi) (cutV vs lo hi) := by
  unfold cut cutV
  rw [sIx_eq, sIx_eq, ← h.length]
  exact (h.drop _).take _
theorem opr_sl : SlR X (rSl X.K) := by
  intro pins s σ H x v vl vu lo hi sl Q I rx hsl pl pu h
  obtain ⟨φ, F, S, d, z, hl, h1, e, out⟩ := h
  cases d with
  | list xs =>
    simp only [slD, Option.some.injEq] at e; subst e
    obtain ⟨p, vs, rfl, g1, g2⟩ := h1
    exact sl_list pins s σ H _ v vl vu lo hi sl Q I rx hsl pl pu ⟨p, vs, rfl, g1, out_lst hl (cut_rds lo hi g2) out⟩
  | tuple xs =>
    simp only [slD, Option.some.injEq] at e; subst e
    have t1 : RD X.K F H (.tuple xs) x := h1
    obtain ⟨p, vs, rfl, g1, g2⟩ := h1.tup
    refine sl_tupA pins s σ H _ v vl vu lo hi sl Q I rx hsl pl pu ⟨p, vs, rfl, g1, fun hw => ?_, fun _ => out_tup hl (cut_rds lo hi g2) out⟩
    have hx : cut xs lo hi = xs := by
      unfold cut
      rw [sIx_eq, sIx_eq, ← g2.length] at hw
      rw [hw.1, hw.2]; simp
    rw [hx] at out
    exact out_same hl t1 (fun _ e => nomatch e) out
  | _ => simp [slD] at e
/-- a slice's part -/
def tO (K : Fg) (P : Prm) (e : CE) : TO := fun σ H Q => ∃ φ F ρ S, Rl K φ F S H ∧ Re K φ F H ρ σ ∧ ∃ o S', (match e with | .no => some (none, S) | e => part (op1 (ev P e ρ S) intD)) = some (o, S') ∧
  ∀ φ' F' H', Stp φ F H φ' F' H' → Rl K φ' F' S' H' → Q o H'
theorem poImp {e : Option Expr} {t t' : TO} (h : L2.PO X e t) (i : ∀ σ H Q, t' σ H Q → t σ H Q) : L2.PO X e t' := ⟨fun pins s σ H Q I q => h.run pins s σ H Q I (i σ H Q q)⟩
theorem r_no : L2.PO X none (tO X.K P .no) := poImp po_none fun σ H Q h => by
  obtain ⟨φ, F, ρ, S, hl, hρ, o, S', e, q⟩ := h
  cases e
  exact q φ F H Stp.refl hl
theorem r_part (ha : PE X a (tE X.K P ca)) (hn : ca ≠ .no) : L2.PO X (some a) (tO X.K P ca) := poImp (po_some ha) fun σ H Q h => by
  obtain ⟨φ, F, ρ, S, hl, hρ, o, S', e, q⟩ := h
  have e : part (op1 (ev P ca ρ S) intD) = some (o, S') := by
    cases ca <;> first | exact e | exact absurd rfl hn
  unfold part at e
  obtain ⟨⟨i, S1⟩, e0, e⟩ := Option.map_eq_some_iff.mp e
  cases e
  obtain ⟨pv, x, e1, e2, e3⟩ := of_op1 e0
  exact ⟨φ, F, ρ, S, hl, hρ, pv, S1, e1, fun φ1 F1 H1 v st1 hl1 r1 _ => ⟨i, (VD.deref hl1 r1 e2).intD e3, q φ1 F1 H1 st1 hl1⟩⟩
theorem r_sl {lo hi : Option Expr} {cl ch : CE} {p2 : Pos} (ha : PE X a (tE X.K P ca)) (hl : L2.PO X lo (tO X.K P cl)) (hh : L2.PO X hi (tO X.K P ch)) : PE X (.Subscript a (.Slice lo hi none p2) pos) (tE X.K P (.sl ca cl ch)) := by
  refine PE.imp (pe_slice opr_sl ha hl hh) fun σ H Q h => ?_
  obtain ⟨φ, F, ρ, S, hl, hρ, pv, S', e, q⟩ := h
  rw [ev] at e
  obtain ⟨⟨pa, S1⟩, e1, e⟩ := Option.bind_eq_some_iff.mp e
  obtain ⟨⟨l, S2⟩, e2, e⟩ := Option.bind_eq_some_iff.mp e
  obtain ⟨⟨u, S3⟩, e3, e⟩ := Option.bind_eq_some_iff.mp e
  obtain ⟨x, e4, e⟩ := Option.bind_eq_some_iff.mp e
  obtain ⟨z, e5, e⟩ := Option.map_eq_some_iff.mp e
  cases e
  refine ⟨φ, F, ρ, S, hl, hρ, pa, S1, e1, fun φ1 F1 H1 v st1 hl1 r1 _ => ?_⟩
  refine ⟨φ1, F1, ρ, S1, hl1, hρ.step st1 hl, l, S2, by cases cl <;> exact e2, fun φ2 F2 H2 st2 hl2 => ?_⟩
  have st12 := st1.trans st2
  refine ⟨φ2, F2, ρ, S2, hl2, hρ.step st12 hl, u, S3, by cases ch <;> exact e3, fun φ3 F3 H3 st3 hl3 => ?_⟩
  have st13 := st12.trans st3
  refine ⟨φ3, F3, S3, x, z, hl3, VD.deref hl3 ((r1.step st2 hl1).step st3 hl2) e4, e5, fun H' w st hl' r nl => ?_⟩
  exact q φ3 F3 H' w (st13.trans st) hl' r fun _ xs e => by cases e; exact (nl rfl xs rfl).back st13

/-! ### displays and arguments -/
theorem rps_cons {K : Fg} {φ : Phi} {F : FS} {H : Hp} {pv : PV} {v : V} {pvs : List PV} {vs : List V} (h : RP K φ F H pv v) (h' : RPs K φ F H pvs vs) : RPs K φ F H (pv :: pvs) (v :: vs) := by
  unfold RPs; exact ⟨v, vs, rfl, h, h'⟩
theorem r_pnil : PA X [] (tP X.K P []) := PA.imp pa_nil fun σ H Q h => by
  obtain ⟨φ, F, ρ, S, hl, hρ, pvs, S', e, q⟩ := h
  rw [evp] at e
  cases e
  exact q φ F H [] Stp.refl hl (by unfold RPs; rfl)
/-- no star -/
def nst : Expr → Bool
  | .Starred _ _ => false
  | _ => true
theorem nst_ok {e : Expr} (h : nst e = true) (es : List Expr) (env : Env) : starEach (e :: es) env = (false, eval e env) :: starEach es env := by
  cases e <;> first | rfl | (simp [nst] at h)
theorem nst_all {pos : Pos} {env : Env} : ∀ {es : List Expr}, es.all nst = true → (backTo pos (starEach es env)).any (·.1) = false
  | [], _ => rfl
  | e :: es, h => by
    rw [List.all_cons, Bool.and_eq_true] at h
    rw [nst_ok h.1]
    have := nst_all (pos := pos) (env := env) h.2
    simpa [backTo] using this
theorem r_pcons {es : List Expr} {ces : List CE} (hs : nst a = true) (ha : PE X a (tE X.K P ca)) (hr : PA X es (tP X.K P ces)) : PA X (a :: es) (tP X.K P (ca :: ces)) := by
  refine PA.imp (pa_cons ha hr (nst_ok hs _ _)) fun σ H Q h => ?_
  obtain ⟨φ, F, ρ, S, hl, hρ, pvs, S', e, q⟩ := h
  rw [evp] at e
  obtain ⟨⟨pa, S1⟩, e1, e⟩ := Option.bind_eq_some_iff.mp e
  obtain ⟨⟨ps, S2⟩, e2, e⟩ := Option.map_eq_some_iff.mp e
  cases e
  refine ⟨φ, F, ρ, S, hl, hρ, pa, S1, e1, fun φ1 F1 H1 v st1 hl1 r1 _ => ?_⟩
  refine ⟨φ1, F1, ρ, S1, hl1, hρ.step st1 hl, ps, S2, e2, fun φ2 F2 H2 vs st2 hl2 r2 => ?_⟩
  exact q φ2 F2 H2 _ (st1.trans st2) hl2 (rps_cons (r1.step st2 hl1) r2)
theorem r_snil : PA X [] (tS X.K P []) := PA.imp pa_nil fun σ H Q h => by
  obtain ⟨φ, F, ρ, S, hl, hρ, pvs, S', e, q⟩ := h
  rw [evs] at e
  cases e
  exact q φ F H [] Stp.refl hl .nil
def nstC : CE → Bool
  | .star _ => false
  | _ => true
theorem evs_cons {ρ : Ev} {S : Store} {e : CE} {es : List CE} (h : nstC e = true) : evs P (e :: es) ρ S = (dt (ev P e ρ S)).bind fun r => (evs P es ρ r.2).map fun q => (r.1 :: q.1, q.2) := by
  rw [evs]
  intro a ha
  subst ha
  simp [nstC] at h
theorem r_scons {es : List Expr} {ces : List CE} (hs : nst a = true) (hc : nstC ca = true) (ha : PE X a (tE X.K P ca)) (hr : PA X es (tS X.K P ces)) : PA X (a :: es) (tS X.K P (ca :: ces)) := by
  refine PA.imp (pa_cons ha hr (nst_ok hs _ _)) fun σ H Q h => ?_
  obtain ⟨φ, F, ρ, S, hl, hρ, pvs, S', e, q⟩ := h
  rw [evs_cons hc] at e
  obtain ⟨⟨x, S1⟩, e1, e⟩ := Option.bind_eq_some_iff.mp e
  obtain ⟨⟨ps, S2⟩, e2, e⟩ := Option.map_eq_some_iff.mp e
  cases e
  refine ⟨φ, F, ρ, S, hl, hρ, _, S1, of_dt e1, fun φ1 F1 H1 v st1 hl1 r1 _ => ?_⟩
  refine ⟨φ1, F1, ρ, S1, hl1, hρ.step st1 hl, ps, S2, e2, fun φ2 F2 H2 vs st2 hl2 r2 => ?_⟩
  exact q φ2 F2 H2 _ (st1.trans st2) hl2 (.cons (RD.step st2 hl1.inF r1) r2)
/-- a star in a display -/
theorem collect_ok {pins : List (Addr × Obj)} {σ : St} {H : Hp} {s : Shared} {p : Addr} {vs : List V} {M : Model} {E : Value → Shared → Prop} {Q : List Value → Shared → Prop} (I : Inv X pins σ H s) (h : SqL X.K H p vs ∨ SqT X.K H p vs)
    (q : ∀ us s', Vals vs us → Inv X pins σ H s' → Q us s') : PySem.W.StarOf (model X.prog X.w) X.A E (.ref p) Q s := by
  have core : ∀ {T : String} {o : Obj} {its : Array Value} {n : Nat}, T = "list" ∨ T = "tuple" → s.heap.get? p = some o → o.cls = .type T → o.data = .seq its n → Vals vs its.toList → vs.length ≤ sizeLine → PySem.W.StarOf (model X.prog X.w) X.A E (.ref p) Q s := by
    intro T o its n hT ho hc hd r hz
    have hT' : s.TypeIs (.ref p) T := ⟨o, ho, hc⟩
    have hsz : its.size ≤ sizeLine := by have := r.length; simp at this; omega
    have z : wpAny (model X.prog X.w) X.A (collect (.ref p)) Q E s := by
      refine wpAny_collect_seq p hT ho hc hd (fun h' hk => q _ _ r (I.kept (t' := s.toks) hk)) hsz
    unfold PySem.W.StarOf notIterableAtAll
    rcases hT with rfl | rfl
    · exact wpAny_bind (wpAny_specialOf hT' PySem.F.slot_list_iter.lookup (wpAny_pure ⟨rfl, z⟩))
    · exact wpAny_bind (wpAny_specialOf hT' PySem.F.slot_tuple_iter.lookup (wpAny_pure ⟨rfl, z⟩))
  rcases h with h | h
  · obtain ⟨its, r, ⟨o, n, ho, hc, _, hd⟩, hz⟩ := I.list h
    exact core (.inl rfl) ho hc hd (by simpa using r) hz
  · obtain ⟨its, r, ⟨o, ho, hc, n, hd⟩, hz⟩ := I.tuple h
    exact core (.inr rfl) ho hc hd (by simpa using r) hz
theorem r_star {es : List Expr} {ces : List CE} {p : Pos} (ha : PE X a (tE X.K P ca)) (hr : PA X es (tS X.K P ces)) : PA X (.Starred a p :: es) (tS X.K P (.star ca :: ces)) := by
  refine ⟨fun pos pins s σ H Q I h => ?_⟩
  obtain ⟨φ, F, ρ, S, hl, hρ, xs, S', e, q⟩ := h
  rw [evs] at e
  obtain ⟨⟨ys, S1⟩, e1, e⟩ := Option.bind_eq_some_iff.mp e
  obtain ⟨⟨zs, S2⟩, e2, e⟩ := Option.map_eq_some_iff.mp e
  cases e
  obtain ⟨pv, x, e3, e4, e5⟩ := of_op1 e1
  refine PySem.W.items_star (thn (ha.run pins s σ H (fun v H1 => ∃ φ1 F1, Stp φ F H φ1 F1 H1 ∧ Rl X.K φ1 F1 S1 H1 ∧ VD X.K F1 H1 x v) I
    ⟨φ, F, ρ, S, hl, hρ, pv, S1, e3, fun φ1 F1 H1 v st1 hl1 r1 _ => ⟨φ1, F1, st1, hl1, VD.deref hl1 r1 e4⟩⟩) fun v s1 h1 => ?_)
  obtain ⟨w, H1, I1, rw, φ1, F1, st1, hl1, r1⟩ := h1
  obtain ⟨b, vs, rfl, g1, g2⟩ := r1.items e5
  cases rw
  refine collect_ok (M := model X.prog X.w) I1 g1 fun us s2 ru I2 => ?_
  refine thn (hr.run pos pins s2 σ H1 _ I2 ⟨φ1, F1, ρ, S1, hl1, hρ.step st1 hl, zs, S2, e2, fun φ2 F2 H2 ws st2 hl2 r2 => ?_⟩) fun us2 s3 ⟨ws, H2, I3, r3, q3⟩ => ⟨vs ++ ws, H2, I3, ru.append r3, q3⟩
  exact q φ2 F2 H2 _ (st1.trans st2) hl2 ((g2.step st2 hl1.inF).append r2)
theorem r_dct : PE X (.Dict [] [] pos) (tE X.K P (.cst (.dict []))) := by
  refine PE.imp pe_dnewK fun σ H Q h p hp => ?_
  obtain ⟨φ, F, ρ, S, hl, hρ, pv, S', e, q⟩ := h
  rw [ev] at e
  cases e
  exact q φ F _ _ (Stp.fresh hp) (hl.fresh hp) (by show RD X.K F _ (.dict []) _; unfold RD; exact ⟨rfl, p, rfl, fun hF => hl.dom p hF hp, .inl upd_same⟩) (fun e => nomatch e)
theorem r_tup {es : List Expr} {ces : List CE} {k : Nat} (h : PA X es (tS X.K P ces)) : PE X (.Tuple es k pos) (tE X.K P (.tup ces)) := by
  refine PE.imp (pe_tup h) fun σ H Q h => ?_
  obtain ⟨φ, F, ρ, S, hl, hρ, pv, S', e, q⟩ := h
  rw [ev] at e
  obtain ⟨⟨xs, S1⟩, e1, e⟩ := Option.bind_eq_some_iff.mp e
  split at e
  · rename_i hz
    cases e
    refine ⟨φ, F, ρ, S, hl, hρ, xs, S1, e1, fun φ1 F1 H1 vs st1 hl1 r1 => ⟨by rw [← r1.length]; exact hz, fun p hp => ?_⟩⟩
    exact q φ1 F1 _ _ (st1.trans (Stp.fresh hp)) (hl1.fresh hp) (RD.tupNew hl1 hp r1) (fun e => nomatch e)
  · cases e
theorem r_lst {es : List Expr} {ces : List CE} (h : PA X es (tS X.K P ces)) : PE X (.List es pos) (tE X.K P (.lst ces)) := by
  refine PE.imp (pe_lst h) fun σ H Q h => ?_
  obtain ⟨φ, F, ρ, S, hl, hρ, pv, S', e, q⟩ := h
  rw [ev] at e
  obtain ⟨⟨xs, S1⟩, e1, e⟩ := Option.bind_eq_some_iff.mp e
  split at e
  · rename_i hz
    cases e
    refine ⟨φ, F, ρ, S, hl, hρ, xs, S1, e1, fun φ1 F1 H1 vs st1 hl1 r1 => ⟨by rw [← r1.length]; exact hz, fun p hp => ?_⟩⟩
    exact q φ1 F1 _ _ (st1.trans (Stp.fresh hp)) (hl1.fresh hp) (RD.lstNew hl1 hp r1) fun _ ys e => by cases e; exact (NewL.made hl1 hp r1).back st1
  · cases e
end
end Cr

/-! ## CrE0 -/
set_option Elab.async false
set_option linter.all false
set_option autoImplicit false
set_option maxRecDepth 100000
set_option maxHeartbeats 4000000
/-! CrE0: remove of data; list(dict(pairs)) with keys that are tuples of ints. -/
namespace Cr
open PySem PySem.Spec PyProof.Rows L2

section
variable {X : Cx}
def rRemD (K : PySem.W.Frag) : V → List V → Hp → VK → Prop := fun x vs H Q => ∃ (l : Addr) (ws : List V) (y : V) (d : PyData) (ds : List PyData) (j : Nat), x = .ref l ∧ vs = [y] ∧ H l = some (.lst ws) ∧ DpAll K H ws ds ∧ Dp K H y d ∧
  SeqAt.shaped (.list ds) = true ∧ SeqAt.shaped d = true ∧ ds.findIdx? (fun z => PyData.eqv z d) = some j ∧ Q .non (upd H l (.lst (ws.eraseIdx j)))
theorem mt_remD (hu : X.A.units + 65 < cLine) : MtR X "list.remove" (rRemD X.K) := by
  intro pins s σ H x xs v us Q I rx rxs h
  obtain ⟨l, ws, y, d, ds, j, rfl, rfl, hH, ha, hy, sl, sd, hf, q⟩ := h
  cases rx
  obtain ⟨uy, rfl, ry⟩ := rxs.one
  obtain ⟨bs, r1⟩ := Dp.reads I d y uy hy ry
  have hxs : PyData.canLayAll0 ds = true := SeqAt.canLay_of_shaped sl
  have hroom : X.A.units + 1 + min (PyData.depthAll ds) d.depth < cLine := room_in_shaped sd hu
  obtain ⟨z, its, n, rv, hl, e⟩ := I.lstM hH
  obtain ⟨as, h4⟩ := Dp.readsAll I ds _ its ha rv
  have hn : its.length = ds.length := SeqAt.ReadsAll.length ds its as h4
  have hmap : its.map (SeqAt.readOf s.heap) = ds := SeqAt.readsAll_map ds its as hxs h4
  obtain ⟨hj, hj1, hj2⟩ := List.findIdx?_eq_some_iff_getElem.mp hf
  have hjl : j < its.toArray.size := by simpa using (by omega : j < its.length)
  have at_ : ∀ (m : Nat) (hm : m < its.toArray.size) (hd : m < ds.length), SeqAt.readOf s.heap its.toArray[m] = ds[m] := by
    intro m hm hd
    have hml : m < its.length := by simpa using hm
    have e1 : (its.map (SeqAt.readOf s.heap))[m]? = some ds[m] := by rw [hmap]; exact List.getElem?_eq_getElem hd
    rw [List.getElem?_map, List.getElem?_eq_getElem hml] at e1
    have e2 : SeqAt.readOf s.heap its[m] = ds[m] := Option.some.inj e1
    simpa using e2
  have hsz : its.toArray.size ≤ sizeLine := by
    have : its.toArray.size = its.length := by simp
    omega
  refine call_meets PySem.F.slot_list_remove ⟨_, e, rfl⟩ PySem.F.entry_list_remove (PySem.F.args_list_remove_2 _ _)
    (SeqAt.list_removeAt l its.toArray n none #[] uy (fun u => PyData.eqv (SeqAt.readOf s.heap u) d) j hjl ?_ ?_ hsz) ⟨e, SeqAt.items_eqAt (vs := its.toArray) (show ReadsAll s.heap its.toArray.toList ds as from h4) r1 hxs (SeqAt.canLay_of_shaped sd) hroom, ?_⟩
  · show PyData.eqv (SeqAt.readOf s.heap its.toArray[j]) d = true
    rw [at_ j hjl hj]
    exact hj1
  · intro m hm hmj
    show PyData.eqv (SeqAt.readOf s.heap its.toArray[m]) d = false
    rw [at_ m hm (by omega)]
    have := hj2 m hmj
    simpa using this
  · refine ⟨.non, _, I.lset (its' := its.eraseIdx j) (t' := s.toks) hH e ?_ (rv.eraseIdx j) ?_, rfl, q⟩
    · show its.toArray.eraseIdxIfInBounds j = (its.eraseIdx j).toArray
      rw [List.eraseIdxIfInBounds_toArray]
    · have := List.length_eraseIdx_le ws j
      omega

/-! ### list(dict(pairs)) -/
/-- the keys' own tuples, in order, of the dict at p -/
def keysAt (p : Addr) (bs : List Addr) : Heap → Prop := fun h => (p == sysModules) = false ∧ bs.length ≤ sizeLine ∧ ∃ o es ep, h.get? p = some o ∧ o.ExactDict ∧ o.data = .dict es ep ∧ es.toList.map (·.key) = bs.map Value.ref
/-- the places of the keys' tuples behind storing pairs: the first of each -/
def keepK (xs : List (List L2.Key × Addr)) (k : List L2.Key) (a : Addr) : List (List L2.Key × Addr) := if xs.any (fun x => decide (x.1 = k)) = true then xs else xs ++ [(k, a)]
def keepAll (xs ps : List (List L2.Key × Addr)) : List (List L2.Key × Addr) := ps.foldl (fun acc p => keepK acc p.1 p.2) xs
theorem keepAll_len : ∀ (ps xs : List (List L2.Key × Addr)), (keepAll xs ps).length ≤ xs.length + ps.length
  | [], xs => Nat.le_refl _
  | p :: ps, xs => by
    have h := keepAll_len ps (keepK xs p.1 p.2)
    have : (keepK xs p.1 p.2).length ≤ xs.length + 1 := by
      unfold keepK
      split
      · omega
      · simp
    show (keepAll (keepK xs p.1 p.2) ps).length ≤ _
    simp only [List.length_cons]
    omega
theorem stored_keep (xs : List (List L2.Key × Addr × Value)) (k : List L2.Key) (a : Addr) (v : Value) : (storedH xs k a v).map (fun x => (x.1, x.2.1)) = keepK (xs.map fun x => (x.1, x.2.1)) k a := by
  have e : (xs.map fun x : List L2.Key × Addr × Value => (x.1, x.2.1)).any (fun x => decide (x.1 = k)) = (atKey xs k).isSome := by
    induction xs with
    | nil => rfl
    | cons x xs ih =>
      by_cases h : x.1 = k
      · simp [atKey, h]
      · simpa [atKey, h] using ih
  unfold storedH keepK
  rw [e]
  split
  · rw [List.map_map]
    refine List.map_congr_left fun x _ => ?_
    by_cases h : x.1 = k <;> simp [putAt, h]
  · simp
theorem storedAll_keep : ∀ (ps xs : List (List L2.Key × Addr × Value)), (storedAllH xs ps).map (fun x => (x.1, x.2.1)) = keepAll (xs.map fun x => (x.1, x.2.1)) (ps.map fun x => (x.1, x.2.1))
  | [], xs => rfl
  | p :: ps, xs => by
    show (storedAllH (storedH xs p.1 p.2.1 p.2.2) ps).map _ = _
    rw [storedAll_keep ps, stored_keep]
    rfl
theorem isKey_of {pins : List (Addr × Obj)} {σ : L2.St} {H : Hp} {s : Shared} {b : Addr} {k : List L2.Key} (I : Inv X pins σ H s) (h : SqT X.K H b (k.map kV)) : (tupleKind (mixKind X.prog X.w)).is s.heap k b := by
  obtain ⟨its, rv, ⟨o, h1, h2, n, h3⟩, _⟩ := I.tuple h
  exact ⟨o, its.toArray, n, h1, h2, h3, by simpa using items_are rv⟩
theorem pairsH_of {pins : List (Addr × Obj)} {σ : L2.St} {H : Hp} {s : Shared} (I : Inv X pins σ H s) : ∀ {ps : List Addr} {kvs : List (List L2.Key × Addr × V)}, Paired (fun p kv => SqT X.K H p [.ref kv.2.1, kv.2.2] ∧ SqT X.K H kv.2.1 (kv.1.map kV)) ps kvs →
    ∃ prs : List (List L2.Key × Addr × Value), prs.map (fun x => (x.1, x.2.1)) = kvs.map (fun x => (x.1, x.2.1)) ∧ prs.length = ps.length ∧ (∀ x ∈ prs, (tupleKind (mixKind X.prog X.w)).is s.heap x.1 x.2.1) ∧
      ∀ (j : Nat) (q : List L2.Key × Addr × Value), prs[j]? = some q → ∃ (b : Addr), ps[j]? = some b ∧ IsTup s.heap b #[.ref q.2.1, q.2.2]
  | _, _, .nil => ⟨[], rfl, rfl, (fun _ h => nomatch h), fun j q e => by simp at e⟩
  | _, _, .cons (a := p) (b := kv) h t => by
    obtain ⟨prs, em, hl, his, hp⟩ := pairsH_of I t
    obtain ⟨its, rv, ht, _⟩ := I.tuple h.1
    obtain ⟨u, y, ei, ru, ry⟩ := vals2 rv
    subst ei
    have ru : u = .ref kv.2.1 := ru
    subst ru
    refine ⟨(kv.1, kv.2.1, y) :: prs, by rw [List.map_cons, List.map_cons, em], by rw [List.length_cons, List.length_cons, hl], fun x hx => ?_, fun j q e => ?_⟩
    · rcases List.mem_cons.mp hx with rfl | hx
      · exact isKey_of I h.2
      · exact his x hx
    · cases j with
      | zero =>
        have e' : (kv.1, kv.2.1, y) = q := Option.some.inj e
        subst e'
        exact ⟨p, rfl, ht⟩
      | succ j =>
        obtain ⟨b, e1, e2⟩ := hp j q (by simpa using e)
        exact ⟨b, by simpa using e1, e2⟩
theorem keysAt_ext {p : Addr} {bs : List Addr} {P : Program} {w : World} {H : Hp} {h : Heap} (k : keysAt p bs h) : ObjOk P w H h p (.ext (keysAt p bs)) := by
  obtain ⟨a, b, o, es, ep, ho, r⟩ := id k
  refine ⟨k, ⟨o, ho⟩, ?_⟩
  rintro h1 h2 ⟨a, b, o, es, ep, ho, r⟩ hk
  exact ⟨a, b, o, es, ep, hk o ho, r⟩
theorem call_dictX (hcalm : X.calm = true) (hu : X.A.units + 200 < cLine) : CallR X (.type "dict") (fun xs H Q => ∃ (a : Addr) (ps : List Addr) (kvs : List (List L2.Key × Addr × V)), xs = [.ref a] ∧ SqL X.K H a (ps.map V.ref) ∧
    Paired (fun p kv => SqT X.K H p [.ref kv.2.1, kv.2.2] ∧ SqT X.K H kv.2.1 (kv.1.map kV)) ps kvs ∧ ∀ p, H p = none → Q (.ref p) (upd H p (.ext (keysAt p ((keepAll [] (kvs.map fun x => (x.1, x.2.1))).map (·.2)))))) := by
  intro pins s σ H xs us Q I r q
  obtain ⟨a, ps, kvs, ex, hq, hp, q⟩ := q
  subst ex
  obtain ⟨u, eu, rx⟩ := vals1 r
  subst eu
  cases rx
  obtain ⟨its, rv, pl, hz⟩ := I.list hq
  have ei := refs_at rv
  subst ei
  rw [List.length_map] at hz
  obtain ⟨prs, em, hl, his, hpr⟩ := pairsH_of I hp
  obtain ⟨o, n, ho, hc, hd, hdat⟩ := pl
  refine call_dict_pairsH (knd := tupleKind (mixKind X.prog X.w)) (ps := prs) (PairArg.list a (ps.map Value.ref).toArray (fun j => ps.getD j 0) (prs.map fun x => (Value.ref x.2.1, x.2.2))) (I.ok.hd hcalm) ?_ ⟨⟨o, n, ho, hc, hd, hdat⟩, by simp [hl], fun j k v e => ?_⟩ ⟨by simp, fun i key v e => ?_⟩ (fun h' hk x hx => ?_) (by simp [hl]; exact hz) fun h' tk hd' hk => ?_
  · show X.A.in1.in1.units < cLine
    have : X.A.in1.in1.units = X.A.units + 1 + 1 := rfl
    omega
  · rw [List.getElem?_map] at e
    obtain ⟨x, hx, e2⟩ := Option.map_eq_some_iff.mp e
    cases e2
    obtain ⟨b, e1, e2⟩ := hpr j x hx
    have e3 : ps.getD j 0 = b := by simp [List.getD, e1]
    refine ⟨by simp [e1, e3], ?_⟩
    show PairAt s.heap (ps.getD j 0) _ _
    rw [e3]
    exact .inl e2
  · have e : (prs.map fun x => (Value.ref x.2.1, x.2.2))[i]? = some (key, v) := e
    rw [List.getElem?_map] at e
    obtain ⟨x, hx, e2⟩ := Option.map_eq_some_iff.mp e
    cases e2
    exact ⟨x.1, x.2.1, hx, rfl⟩
  · exact tupleKind_stays.stays (fun b o vs n e _ => hk b o (Nat.ne_of_lt (Heap.lt_size e)) (fun z => nomatch z) e) (his x hx)
  · have hm : (s.heap.objs.size == sysModules) = false := beq_eq_false_iff_ne.mpr (Nat.ne_of_gt I.big)
    obtain ⟨o', es, ep, h1, h2, h3, h4, -⟩ := hd'
    have ek : es.toList.map (·.key) = ((keepAll [] (kvs.map fun x => (x.1, x.2.1))).map (·.2)).map Value.ref := by
      have e0 := storedAll_keep prs []
      rw [List.map_nil, em] at e0
      rw [h4, ← e0]
      simp [List.map_map, Function.comp_def, entryOfKey]
    refine ⟨.ref s.heap.objs.size, _, I.laid (a := s.heap.objs.size) (o := .ext (keysAt s.heap.objs.size ((keepAll [] (kvs.map fun x => (x.1, x.2.1))).map (·.2)))) (t' := tk) (fun b o e => hk b o (fun z => nomatch z) e) (Nat.le_refl _) (keysAt_ext ⟨hm, ?_, o', es, ep, h1, h2, h3, ek⟩), rfl, q _ (I.hok.fresh (Nat.le_refl _))⟩
    rw [List.length_map]
    refine Nat.le_trans (keepAll_len _ _) ?_
    have : (kvs.map fun x => (x.1, x.2.1)).length = ps.length := by rw [← em, List.length_map, hl]
    simp only [List.length_nil]
    omega
theorem call_listX (hc : X.calm = true) : CallR X (.type "list") (fun xs H Q => ∃ d bs, xs = [V.ref d] ∧ H d = some (.ext (keysAt d bs)) ∧ ∀ p, H p = none → Q (.ref p) (upd H p (.lst (bs.map V.ref)))) := by
  intro pins s σ H xs us Q I r h
  obtain ⟨d, bs, rfl, hd, q⟩ := h
  obtain ⟨u, rfl, rx⟩ := r.one
  cases rx
  obtain ⟨⟨hs, hz, o, es, ep, ho, hx, hdt, he⟩, -, -⟩ := (show ObjOk X.prog X.w H s.heap d (.ext (keysAt d bs)) from I.hok d _ hd)
  have l1 : es.size = bs.length := by
    have := congrArg List.length he
    simpa using this
  refine PySem.W.kdl_call (kdl_raw hs hx hdt) (I.ok.hd hc) ho (by omega) fun h' tk acc' c' kp e it => ?_
  have ea : acc'.toList = bs.map Value.ref := by
    have hl : acc'.toList.length = bs.length := by rw [Array.length_toList, it.1]; exact l1
    apply List.ext_getElem?
    intro j
    rw [List.getElem?_map]
    cases hj : acc'.toList[j]? with
    | none =>
      have h1 := List.getElem?_eq_none_iff.mp hj
      rw [List.getElem?_eq_none (by omega)]
      rfl
    | some v =>
      obtain ⟨en, hen, hv⟩ := it.2 j v (by rw [← Array.getElem?_toList]; exact hj)
      have q2 : (es.toList.map (·.key))[j]? = some en.key := by
        rw [List.getElem?_map, Array.getElem?_toList, hen]
        rfl
      rw [he, List.getElem?_map] at q2
      rw [q2, hv]
  have rv : Vals (bs.map V.ref) acc'.toList := by rw [ea]; exact vals_refs _
  have hz2 : (bs.map V.ref).length ≤ sizeLine := by rw [List.length_map]; omega
  refine ⟨.ref s.heap.objs.size, _, I.laid (t' := tk) (o := .lst (bs.map V.ref)) kp (Nat.le_refl _) ?_, rfl, q _ (I.hok.fresh (Nat.le_refl _))⟩
  exact ⟨hz2, acc'.toList, c', rv, by rw [Array.toArray_toList]; exact e⟩
end
end Cr

/-! ## CrE -/
set_option Elab.async false
set_option linter.all false
set_option autoImplicit false
set_option maxRecDepth 100000
set_option maxHeartbeats 4000000
/-! CrE: built-ins by name, methods of the frame's lists. -/
namespace Cr
open PySem PySem.Spec L2

section
variable {K : Fg} {φ : Phi} {F : FS} {H : Hp} {S : Store}
theorem VDs.one {x : PyData} {vs : List V} (h : VDs K F H [x] vs) : ∃ v, vs = [v] ∧ VD K F H x v := by
  cases h with
  | cons h1 h2 => cases h2; exact ⟨_, rfl, h1⟩
theorem VDs.two {x y : PyData} {vs : List V} (h : VDs K F H [x, y] vs) : ∃ v w, vs = [v, w] ∧ VD K F H x v ∧ VD K F H y w := by
  cases h with
  | cons h1 h2 =>
    obtain ⟨w, rfl, h3⟩ := h2.one
    exact ⟨_, _, rfl, h1, h3⟩
theorem maxI_ok : ∀ {xs : List Int} {m : Int}, maxI xs = some m → ∀ z, z ∈ xs → (∀ y, y ∈ xs → y ≤ z) → z = m := by
  have key : ∀ (xs : List Int) (x : Int), (xs.foldl (fun a b => if b > a then b else a) x ∈ x :: xs) ∧ ∀ y ∈ x :: xs, y ≤ xs.foldl (fun a b => if b > a then b else a) x := by
    intro xs
    induction xs with
    | nil => intro x; simp
    | cons b xs ih =>
      intro x
      rw [List.foldl_cons]
      obtain ⟨h1, h2⟩ := ih (if b > x then b else x)
      refine ⟨?_, fun y hy => ?_⟩
      · rcases List.mem_cons.mp h1 with h | h
        · rw [h]; split <;> simp
        · exact List.mem_cons_of_mem _ (List.mem_cons_of_mem _ h)
      · have hm := h2 (if b > x then b else x) List.mem_cons_self
        rcases List.mem_cons.mp hy with rfl | hy
        · refine Int.le_trans ?_ hm
          split <;> omega
        · rcases List.mem_cons.mp hy with rfl | hy
          · refine Int.le_trans ?_ hm
            split <;> omega
          · exact h2 y (List.mem_cons_of_mem _ hy)
  intro xs m h z hz hle
  cases xs with
  | nil => cases hz
  | cons x xs =>
    simp only [maxI, Option.some.injEq] at h
    subst h
    obtain ⟨h1, h2⟩ := key xs x
    exact Int.le_antisymm (h2 z hz) (hle _ h1)
theorem minI_ok : ∀ {xs : List Int} {m : Int}, minI xs = some m → ∀ z, z ∈ xs → (∀ y, y ∈ xs → z ≤ y) → z = m := by
  have key : ∀ (xs : List Int) (x : Int), (xs.foldl (fun a b => if b < a then b else a) x ∈ x :: xs) ∧ ∀ y ∈ x :: xs, xs.foldl (fun a b => if b < a then b else a) x ≤ y := by
    intro xs
    induction xs with
    | nil => intro x; simp
    | cons b xs ih =>
      intro x
      rw [List.foldl_cons]
      obtain ⟨h1, h2⟩ := ih (if b < x then b else x)
      refine ⟨?_, fun y hy => ?_⟩
      · rcases List.mem_cons.mp h1 with h | h
        · rw [h]; split <;> simp
        · exact List.mem_cons_of_mem _ (List.mem_cons_of_mem _ h)
      · have hm := h2 (if b < x then b else x) List.mem_cons_self
        rcases List.mem_cons.mp hy with rfl | hy
        · refine Int.le_trans hm ?_
          split <;> omega
        · rcases List.mem_cons.mp hy with rfl | hy
          · refine Int.le_trans hm ?_
            split <;> omega
          · exact h2 y (List.mem_cons_of_mem _ hy)
  intro xs m h z hz hle
  cases xs with
  | nil => cases hz
  | cons x xs =>
    simp only [minI, Option.some.injEq] at h
    subst h
    obtain ⟨h1, h2⟩ := key xs x
    exact Int.le_antisymm (hle _ h1) (h2 z hz)
end

section
variable {X : Cx} {P : Prm} {pos : Pos}
def rBf (nw : Bool) (K : Fg) (f : List PyData → Option PyData) : List V → Hp → VK → Prop := fun vs H Q => ∃ φ F S xs z, Rl K φ F S H ∧ VDs K F H xs vs ∧ f xs = some z ∧ rOut nw K φ F S H z Q
theorem to_bf {f : Bf} {ces : List CE} (σ : St) (H : Hp) (Q : VK) (h : tE X.K P (.bf f ces) σ H Q) : tCB (rBf (isNew (.bf f ces)) X.K (bfD f)) (tP X.K P ces) σ H Q := by
  obtain ⟨φ, F, ρ, S, hl, hρ, pv, S', e, q⟩ := h
  rw [ev] at e
  obtain ⟨⟨ps, S1⟩, e1, e⟩ := Option.bind_eq_some_iff.mp e
  obtain ⟨xs, e2, e⟩ := Option.bind_eq_some_iff.mp e
  obtain ⟨z, e3, e⟩ := Option.map_eq_some_iff.mp e
  cases e
  refine ⟨φ, F, ρ, S, hl, hρ, ps, S1, e1, fun φ1 F1 H1 vs st1 hl1 r1 => ⟨φ1, F1, S1, xs, z, hl1, r1.derefs hl1 e2, e3, fun H' w st hl' r nl => ?_⟩⟩
  exact q φ1 F1 H' w (st1.trans st) hl' r fun hn xs e => by cases e; exact (nl hn xs rfl).back st1
def bfV : Bf → Value
  | .len => .builtin "len"
  | .abs => .builtin "abs"
  | .int => .type "int"
  | .bool => .type "bool"
  | .mx => .builtin "max"
  | .mn => .builtin "min"
  | .any => .builtin "any"
  | .all => .builtin "all"
  | .tuple => .type "tuple"
  | .list => .type "list"
  | .sum => .builtin "sum"
  | .repr => .builtin "repr"
  | .isInt => .builtin "isinstance"
  | .isBool => .builtin "isinstance"
  | .isTup => .builtin "isinstance"
  | .isList => .builtin "isinstance"
  | .keys => .type "list"
/-- isinstance for one type -/
def isi : Bf → Bool
  | .isInt => true
  | .isBool => true
  | .isTup => true
  | .isList => true
  | _ => false
theorem rpOk_ok {x : PyData} (h : rpOk x = true) : x.showable = true ∧ x.hasDict = false ∧ x.depth ≤ 60 ∧ x.shown.length ≤ sizeLine := by
  unfold rpOk at h
  simp only [Bool.and_eq_true, Bool.not_eq_true', decide_eq_true_eq] at h
  exact ⟨h.1.1.1, h.1.1.2, h.1.2, h.2⟩
/-- repr of a list or a tuple -/
theorem cal_reprO (gd : X.A.guards = some []) (hu : X.A.units + 200 < cLine) {x : PyData} (ho : rpOk x = true) {pins : List (Addr × Obj)} {s : Shared} {σ : St} {H : Hp} {a : Addr} {Q : VK} {F : FS} (I : Inv X pins σ H s) (hv : VD X.K F H x (.ref a)) (q : Q (.str x.shown) H) :
    wpAny (model X.prog X.w) X.A (call (.builtin "repr") [.ref a]) (EP X pins σ Q) X.xe s := by
  obtain ⟨h1, h2, h3, h4⟩ := rpOk_ok ho
  obtain ⟨as, rd⟩ := Dp.reads I x (.ref a) (.ref a) (hv.dp' h2) rfl
  refine repr_of_reads' rd h1 (fun e => by rw [h2] at e; cases e) gd (by omega) (fun _ _ e => e) ?_ h4
  intro h' u tk kept
  exact ⟨.str x.shown, H, I.kept kept, ⟨u, rfl⟩, q⟩
/-- repr of an empty dict -/
theorem cal_reprE (gd : X.A.guards = some []) (hu : X.A.units + 200 < cLine) {pins : List (Addr × Obj)} {s : Shared} {σ : St} {H : Hp} {a : Addr} {Q : VK} (I : Inv X pins σ H s) (r : Rd H a (.dK [])) (q : Q (.str "{}") H) :
    wpAny (model X.prog X.w) X.A (call (.builtin "repr") [.ref a]) (EP X pins σ Q) X.xe s := by
  obtain ⟨-, hs, vs, kv, o, es, ep, h1, h2, h3, -, h5, -⟩ := dk_rd I.hok r
  have e0 : vs = [] := by
    cases vs with
    | nil => rfl
    | cons _ _ => exact nomatch kv
  subst e0
  have e1 : es.toList = [] := List.eq_nil_of_length_eq_zero (by have := h5.length; simpa using this)
  have rd : Reads s.heap (.ref a) (.dict []) (a :: [] ++ []) := .dict h1 h2.1 h3 (by rw [e1]; exact .nil) (by rw [e1]; exact .nil)
  refine repr_of_reads' rd rfl (fun _ hm => ?_) gd (by show X.A.units + (_ + 1) < cLine; simp only [PyData.depth, PyData.depthKv]; omega) (fun _ _ e => e) ?_ (by decide)
  · simp only [List.append_nil, List.mem_singleton] at hm
    rw [← hm] at hs
    simp at hs
  · intro h' u tk kept
    exact ⟨.str _, H, I.kept kept, ⟨u, rfl⟩, q⟩
theorem cal_bf (gd : X.A.guards = some []) (hu : X.A.units + 200 < cLine) (hc : X.calm = true) (f : Bf) (hf : isi f = false) (hk : f ≠ .keys) : CallR X (bfV f) (rBf (decide (f = .list)) X.K (bfD f)) := by
  intro pins s σ H vs us Q I ru h
  obtain ⟨φ, F, S, xs, z, hl, h1, e, out⟩ := h
  cases f with
  | len =>
    match xs, h1, e with
    | [x], h1, e =>
      obtain ⟨v, rfl, hv⟩ := h1.one
      simp only [bfD] at e
      obtain ⟨ys, e1, rfl⟩ := Option.map_eq_some_iff.mp e
      obtain ⟨a, ws, rfl, g1, g2⟩ := hv.items e1
      refine call_len pins s σ H _ us Q I ru ⟨_, ys.length, rfl, ?_, out_same hl (.int _) (fun _ e => nomatch e) out⟩
      rcases g1 with g1 | g1
      · exact .inl ⟨ws, g1, g2.length⟩
      · exact .inr ⟨ws, g1, g2.length⟩
    | [], h1, e => simp [bfD] at e
    | _ :: _ :: _, h1, e => simp [bfD] at e
  | abs =>
    match xs, h1, e with
    | [.int i], h1, e =>
      obtain ⟨v, rfl, hv⟩ := h1.one
      simp only [bfD, Option.some.injEq] at e; subst e
      exact call_abs pins s σ H _ us Q I ru ⟨i, by rw [hv.intD rfl], out_same hl (.int _) (fun _ e => nomatch e) out⟩
    | [], h1, e => simp [bfD] at e
    | [.none], h1, e => simp [bfD] at e
    | [.bool _], h1, e => simp [bfD] at e
    | [.str _], h1, e => simp [bfD] at e
    | [.list _], h1, e => simp [bfD] at e
    | [.tuple _], h1, e => simp [bfD] at e
    | [.dict _], h1, e => simp [bfD] at e
    | _ :: _ :: _, h1, e => simp [bfD] at e
  | int =>
    match xs, h1, e with
    | [.int i], h1, e =>
      obtain ⟨v, rfl, hv⟩ := h1.one
      simp only [bfD, Option.some.injEq] at e; subst e
      exact call_int1 pins s σ H _ us Q I ru (.inl ⟨i, by rw [hv.intD rfl], out_same hl (.int _) (fun _ e => nomatch e) out⟩)
    | [.bool i], h1, e =>
      obtain ⟨v, rfl, hv⟩ := h1.one
      simp only [bfD, Option.some.injEq] at e; subst e
      have hv : v = .bl i := by unfold VD RD at hv; exact hv
      exact call_int1 pins s σ H _ us Q I ru (.inr ⟨i, by rw [hv], out_same hl (.int _) (fun _ e => nomatch e) out⟩)
    | [], h1, e => simp [bfD] at e
    | [.none], h1, e => simp [bfD] at e
    | [.str _], h1, e => simp [bfD] at e
    | [.list _], h1, e => simp [bfD] at e
    | [.tuple _], h1, e => simp [bfD] at e
    | [.dict _], h1, e => simp [bfD] at e
    | _ :: _ :: _, h1, e => simp [bfD] at e
  | bool => simp [bfD] at e
  | mx =>
    have bf2 : ∀ (a b : PyData), VDs X.K F H [a, b] vs → bfD .mx [a, b] = some z → wpAny (model X.prog X.w) X.A (call (bfV .mx) us) (EP X pins σ Q) X.xe s := by
      intro a b h1 e
      cases a <;> cases b <;> first
        | (simp [bfD] at e; done)
        | (rename_i i j
           obtain ⟨v, w, rfl, g1, g2⟩ := h1.two
           simp only [bfD, Option.some.injEq] at e; subst e
           exact call_max2 hc pins s σ H _ us Q I ru ⟨i, j, by rw [g1.intD rfl, g2.intD rfl], out_same hl (.int _) (fun _ e => nomatch e) out⟩)
    match xs, h1, e with
    | [.list ys], h1, e =>
      obtain ⟨v, rfl, hv⟩ := h1.one
      simp only [bfD] at e
      obtain ⟨is, e1, e⟩ := Option.bind_eq_some_iff.mp e
      obtain ⟨m, e2, rfl⟩ := Option.map_eq_some_iff.mp e
      obtain ⟨a, ws, rfl, g1, g2⟩ := hv
      rw [g2.ints e1] at g1
      refine cr_max hc pins s σ H _ us Q I ru ⟨a, is, rfl, g1, ?_, fun z hz hle => ?_⟩
      · cases is <;> simp [maxI] at e2 ⊢
      · rw [maxI_ok e2 z hz hle]; exact out_same hl (.int _) (fun _ e => nomatch e) out
    | [], h1, e => simp [bfD] at e
    | [.none], h1, e => simp [bfD] at e
    | [.bool _], h1, e => simp [bfD] at e
    | [.int _], h1, e => simp [bfD] at e
    | [.str _], h1, e => simp [bfD] at e
    | [.tuple _], h1, e => simp [bfD] at e
    | [.dict _], h1, e => simp [bfD] at e
    | a :: b :: c :: d, h1, e => simp [bfD] at e
    | [a, b], h1, e => exact bf2 a b h1 e
  | mn =>
    have bf2 : ∀ (a b : PyData), VDs X.K F H [a, b] vs → bfD .mn [a, b] = some z → wpAny (model X.prog X.w) X.A (call (bfV .mn) us) (EP X pins σ Q) X.xe s := by
      intro a b h1 e
      cases a <;> cases b <;> first
        | (simp [bfD] at e; done)
        | (rename_i i j
           obtain ⟨v, w, rfl, g1, g2⟩ := h1.two
           simp only [bfD, Option.some.injEq] at e; subst e
           exact call_min2 hc pins s σ H _ us Q I ru ⟨i, j, by rw [g1.intD rfl, g2.intD rfl], out_same hl (.int _) (fun _ e => nomatch e) out⟩)
    match xs, h1, e with
    | [.list ys], h1, e =>
      obtain ⟨v, rfl, hv⟩ := h1.one
      simp only [bfD] at e
      obtain ⟨is, e1, e⟩ := Option.bind_eq_some_iff.mp e
      obtain ⟨m, e2, rfl⟩ := Option.map_eq_some_iff.mp e
      obtain ⟨a, ws, rfl, g1, g2⟩ := hv
      rw [g2.ints e1] at g1
      refine cr_min hc pins s σ H _ us Q I ru ⟨a, is, rfl, g1, ?_, fun z hz hle => ?_⟩
      · cases is <;> simp [minI] at e2 ⊢
      · rw [minI_ok e2 z hz hle]; exact out_same hl (.int _) (fun _ e => nomatch e) out
    | [], h1, e => simp [bfD] at e
    | [.none], h1, e => simp [bfD] at e
    | [.bool _], h1, e => simp [bfD] at e
    | [.int _], h1, e => simp [bfD] at e
    | [.str _], h1, e => simp [bfD] at e
    | [.tuple _], h1, e => simp [bfD] at e
    | [.dict _], h1, e => simp [bfD] at e
    | a :: b :: c :: d, h1, e => simp [bfD] at e
    | [a, b], h1, e => exact bf2 a b h1 e
  | any =>
    match xs, h1, e with
    | [.list ys], h1, e =>
      obtain ⟨v, rfl, hv⟩ := h1.one
      simp only [bfD] at e
      obtain ⟨is, e1, rfl⟩ := Option.map_eq_some_iff.mp e
      obtain ⟨a, ws, rfl, g1, g2⟩ := hv
      rw [g2.bools e1] at g1
      exact cr_any hc pins s σ H _ us Q I ru ⟨a, is, rfl, g1, out_same hl (.bool _) (fun _ e => nomatch e) out⟩
    | [], h1, e => simp [bfD] at e
    | [.none], h1, e => simp [bfD] at e
    | [.bool _], h1, e => simp [bfD] at e
    | [.int _], h1, e => simp [bfD] at e
    | [.str _], h1, e => simp [bfD] at e
    | [.tuple _], h1, e => simp [bfD] at e
    | [.dict _], h1, e => simp [bfD] at e
    | a :: b :: c, h1, e => simp [bfD] at e
  | all =>
    match xs, h1, e with
    | [.list ys], h1, e =>
      obtain ⟨v, rfl, hv⟩ := h1.one
      simp only [bfD] at e
      obtain ⟨is, e1, rfl⟩ := Option.map_eq_some_iff.mp e
      obtain ⟨a, ws, rfl, g1, g2⟩ := hv
      rw [g2.bools e1] at g1
      exact cr_all hc pins s σ H _ us Q I ru ⟨a, is, rfl, g1, out_same hl (.bool _) (fun _ e => nomatch e) out⟩
    | [], h1, e => simp [bfD] at e
    | [.none], h1, e => simp [bfD] at e
    | [.bool _], h1, e => simp [bfD] at e
    | [.int _], h1, e => simp [bfD] at e
    | [.str _], h1, e => simp [bfD] at e
    | [.tuple _], h1, e => simp [bfD] at e
    | [.dict _], h1, e => simp [bfD] at e
    | a :: b :: c, h1, e => simp [bfD] at e
  | sum =>
    match xs, h1, e with
    | [.list ys], h1, e =>
      obtain ⟨v, rfl, hv⟩ := h1.one
      simp only [bfD] at e
      obtain ⟨is, e1, rfl⟩ := Option.map_eq_some_iff.mp e
      obtain ⟨a, ws, rfl, g1, g2⟩ := hv
      rw [g2.ints e1] at g1
      exact cr_sum hc pins s σ H _ us Q I ru ⟨a, is, rfl, g1, out_same hl (.int _) (fun _ e => nomatch e) out⟩
    | [], h1, e => simp [bfD] at e
    | [.none], h1, e => simp [bfD] at e
    | [.bool _], h1, e => simp [bfD] at e
    | [.int _], h1, e => simp [bfD] at e
    | [.str _], h1, e => simp [bfD] at e
    | [.tuple _], h1, e => simp [bfD] at e
    | [.dict _], h1, e => simp [bfD] at e
    | a :: b :: c, h1, e => simp [bfD] at e
  | tuple =>
    match xs, h1, e with
    | [x], h1, e =>
      obtain ⟨v, rfl, hv⟩ := h1.one
      simp only [bfD] at e
      obtain ⟨ys, e1, rfl⟩ := Option.map_eq_some_iff.mp e
      cases x with
      | list zs =>
        simp [Cr.items] at e1; subst e1
        obtain ⟨a, ws, rfl, g1, g2⟩ := hv
        exact call_tuple_of pins s σ H _ us Q I ru ⟨a, ws, rfl, .inl ⟨g1, out_tup hl g2 out⟩⟩
      | tuple zs =>
        simp [Cr.items] at e1; subst e1
        have t1 : RD X.K F H (.tuple zs) v := hv
        obtain ⟨a, ws, rfl, g1, g2⟩ := RD.tup hv
        exact call_tuple_of pins s σ H _ us Q I ru ⟨a, ws, rfl, .inr ⟨g1, out_same hl t1 (fun _ e => nomatch e) out⟩⟩
      | _ => simp [Cr.items] at e1
    | [], h1, e => simp [bfD] at e
    | _ :: _ :: _, h1, e => simp [bfD] at e
  | list =>
    match xs, h1, e with
    | [x], h1, e =>
      obtain ⟨v, rfl, hv⟩ := h1.one
      simp only [bfD] at e
      obtain ⟨ys, e1, rfl⟩ := Option.map_eq_some_iff.mp e
      obtain ⟨a, ws, rfl, g1, g2⟩ := hv.items e1
      exact call_list_of pins s σ H _ us Q I ru ⟨a, ws, rfl, g1, out_lst hl g2 out⟩
    | [], h1, e => simp [bfD] at e
    | _ :: _ :: _, h1, e => simp [bfD] at e
  | repr =>
    match xs, h1, e with
    | [.bool b], h1, e =>
      obtain ⟨v, rfl, hv⟩ := h1.one
      simp only [bfD, Option.some.injEq] at e; subst e
      have hv : RD X.K F H (.bool b) v := hv
      unfold RD at hv
      subst hv
      obtain ⟨u, rfl, r⟩ := vals1 ru
      cases r
      exact PySem.P.repr_of_bool ⟨.str _, H, I.tok _, ⟨_, rfl⟩, out_same hl (by unfold RD; rfl) (fun _ e => by cases e) out⟩
    | [.none], h1, e =>
      obtain ⟨v, rfl, hv⟩ := h1.one
      simp only [bfD, Option.some.injEq] at e; subst e
      have hv : RD X.K F H .none v := hv
      unfold RD at hv
      subst hv
      obtain ⟨u, rfl, r⟩ := vals1 ru
      cases r
      exact PySem.P.repr_of_none ⟨.str _, H, I.tok _, ⟨_, rfl⟩, out_same hl (by unfold RD; rfl) (fun _ e => by cases e) out⟩
    | [.int i], h1, e =>
      obtain ⟨v, rfl, hv⟩ := h1.one
      simp only [bfD] at e
      split at e
      rotate_left
      · cases e
      rename_i ho
      cases e
      have hv : RD X.K F H (.int i) v := hv
      unfold RD at hv
      subst hv
      obtain ⟨u, rfl, r⟩ := vals1 ru
      obtain ⟨t, rfl⟩ := r
      have h1 := (rpOk_ok ho).1
      simp only [PyData.showable, decide_eq_true_eq] at h1
      exact PySem.P.repr_of_int h1 ⟨.str _, H, I.tok _, ⟨_, rfl⟩, out_same hl (by unfold RD; rfl) (fun _ e => by cases e) out⟩
    | [.list zs], h1, e =>
      obtain ⟨v, rfl, hv⟩ := h1.one
      simp only [bfD] at e
      split at e
      rotate_left
      · cases e
      rename_i ho
      cases e
      obtain ⟨a, ws, rfl, g1, g2⟩ := hv.items rfl
      obtain ⟨u, rfl, r⟩ := vals1 ru
      cases r
      exact cal_reprO gd hu ho I hv (out_same hl (by unfold RD; rfl) (fun _ e => by cases e) out)
    | [.tuple zs], h1, e =>
      obtain ⟨v, rfl, hv⟩ := h1.one
      simp only [bfD] at e
      split at e
      rotate_left
      · cases e
      rename_i ho
      cases e
      obtain ⟨a, ws, rfl, g1, g2⟩ := hv.items rfl
      obtain ⟨u, rfl, r⟩ := vals1 ru
      cases r
      exact cal_reprO gd hu ho I hv (out_same hl (by unfold RD; rfl) (fun _ e => by cases e) out)
    | [], h1, e => simp [bfD] at e
    | [.str z], h1, e =>
      obtain ⟨v, rfl, hv⟩ := h1.one
      simp only [bfD] at e
      split at e
      rotate_left
      · cases e
      rename_i ho
      cases e
      have hv : RD X.K F H (.str z) v := hv
      unfold RD at hv
      subst hv
      obtain ⟨u, rfl, r⟩ := vals1 ru
      obtain ⟨t, rfl⟩ := r
      have h4 := (rpOk_ok ho).2.2.2
      exact PySem.P.repr_of_str (h := ⟨.str _, H, I.tok _, ⟨_, rfl⟩, out_same hl (by unfold RD; rfl) (fun _ e => by cases e) out⟩) (hsz := h4)
    | [.dict []], h1, e =>
      obtain ⟨v, rfl, hv⟩ := h1.one
      simp only [bfD, Option.some.injEq] at e
      subst e
      have hv : RD X.K F H (.dict []) v := hv
      unfold RD at hv
      obtain ⟨-, a, rfl, -, r⟩ := hv
      obtain ⟨u, rfl, r3⟩ := vals1 ru
      cases r3
      exact cal_reprE gd hu I r (out_same hl (by unfold RD; rfl) (fun _ e => by cases e) out)
    | [.dict (_ :: _)], h1, e => simp [bfD] at e
    | _ :: _ :: _, h1, e => simp [bfD] at e
  | isInt => cases hf
  | isBool => cases hf
  | isTup => cases hf
  | isList => cases hf
  | keys => exact absurd rfl hk
theorem isNew_bf (f : Bf) (ces : List CE) (hk : f ≠ .keys) : isNew (.bf f ces) = decide (f = .list) := by cases f <;> first | rfl | exact absurd rfl hk
/-- a built-in's name -/
def bfN : Bf → Str
  | .len => "len"
  | .abs => "abs"
  | .int => "int"
  | .bool => "bool"
  | .mx => "max"
  | .mn => "min"
  | .any => "any"
  | .all => "all"
  | .tuple => "tuple"
  | .list => "list"
  | .sum => "sum"
  | .repr => "repr"
  | .isInt => "isinstance"
  | .isBool => "isinstance"
  | .isTup => "isinstance"
  | .isList => "isinstance"
  | .keys => "list"
theorem boot_bf : ∀ f : Bf, bootBuiltins (bfN f) = some (bfV f)
  | .len => by decide +kernel
  | .abs => by decide +kernel
  | .int => by decide +kernel
  | .bool => by decide +kernel
  | .mx => by decide +kernel
  | .mn => by decide +kernel
  | .any => by decide +kernel
  | .all => by decide +kernel
  | .tuple => by decide +kernel
  | .list => by decide +kernel
  | .sum => by decide +kernel
  | .repr => by decide +kernel
  | .isInt => by decide +kernel
  | .isBool => by decide +kernel
  | .isTup => by decide +kernel
  | .isList => by decide +kernel
  | .keys => by decide +kernel
theorem r_bf {f : Bf} (gd : X.A.guards = some []) (hu : X.A.units + 200 < cLine) (hf : isi f = false) (hk : f ≠ .keys) {e : Expr} {es : List Expr} {ces : List CE} {p : Pos} (hc : X.calm = true) (hg : Gl X (bfN f)) (hm : X.mg (bfN f) = none) (hs : (e :: es).all nst = true) (ha : PA X (e :: es) (tP X.K P ces)) :
    PE X (.Call (.Name (bfN f) p) (e :: es) [] pos) (tE X.K P (.bf f ces)) := by
  have hs1 : nst e = true := by rw [List.all_cons, Bool.and_eq_true] at hs; exact hs.1
  have hs2 : es.all nst = true := by rw [List.all_cons, Bool.and_eq_true] at hs; exact hs.2
  have hcall : CallR X (bfV f) (rBf (isNew (.bf f ces)) X.K (bfD f)) := by rw [isNew_bf _ _ hk]; exact cal_bf gd hu hc f hf hk
  have hb := boot_bf f
  have hn : bfN f ≠ "__name__" := by cases f <;> decide
  have hdb : (bfN f == ("__debug__" : Str)) = false := by cases f <;> decide
  have viaB : ∀ id, bfV f = .builtin id → PE X (.Call (.Name (bfN f) p) (e :: es) [] pos) (tE X.K P (.bf f ces)) := fun id hv =>
    PE.imp (pe_callB (by rw [← hv]; exact hcall) hg hm (by rw [hb, hv]) ha hn hdb (nst_ok hs1 _ _) (nst_all hs2)) to_bf
  have viaT : ∀ id, bfV f = .type id → PE X (.Call (.Name (bfN f) p) (e :: es) [] pos) (tE X.K P (.bf f ces)) := fun id hv =>
    PE.imp (pe_callTy (by rw [← hv]; exact hcall) hg hm (by rw [hb, hv]) ha hn hdb (nst_ok hs1 _ _) (nst_all hs2)) to_bf
  cases f <;> first | exact viaB _ rfl | exact viaT _ rfl
/-! ### isinstance(x, T) -/
def isiT : Bf → String
  | .isInt => "int"
  | .isBool => "bool"
  | .isTup => "tuple"
  | .isList => "list"
  | _ => "object"
def isiF : Bf → Bf
  | .isInt => .int
  | .isBool => .bool
  | .isTup => .tuple
  | .isList => .list
  | f => f
def tyD : PyData → String
  | .none => "NoneType"
  | .bool _ => "bool"
  | .int _ => "int"
  | .str _ => "str"
  | .list _ => "list"
  | .tuple _ => "tuple"
  | .dict _ => "dict"
def isiB (f : Bf) (x : PyData) : Bool := match f, x with
  | .isInt, .int _ => true
  | .isInt, .bool _ => true
  | .isBool, .bool _ => true
  | .isTup, .tuple _ => true
  | .isList, .list _ => true
  | _, _ => false
theorem isi_bfD {f : Bf} (hf : isi f = true) {xs : List PyData} {z : PyData} (h : bfD f xs = some z) : ∃ x, xs = [x] ∧ z = .bool (isiB f x) := by
  match xs with
  | [] => cases f <;> simp [isi] at hf <;> simp [bfD] at h
  | [x] =>
    refine ⟨x, rfl, ?_⟩
    cases f <;> simp [isi] at hf <;> cases x <;> simp [bfD] at h <;> simp [isiB, ← h]
  | _ :: _ :: _ => cases f <;> simp [isi] at hf <;> simp [bfD] at h
theorem isi_kit {f : Bf} (hf : isi f = true) {x : PyData} : kitB (tyD x) (isiT f) = some (isiB f x) := by
  cases x with
  | _ => cases f <;> simp [isi] at hf <;> simp only [tyD, isiT, isiB] <;> decide +kernel
theorem VD.tyX {K : Fg} {F : FS} {H : Hp} {x : PyData} {v : V} (h : VD K F H x v) : TyX K H v (.type (tyD x)) := by
  cases x with
  | none => have h : RD K F H .none v := h; unfold RD at h; subst h; exact .base .non
  | bool b => have h : RD K F H (.bool b) v := h; unfold RD at h; subst h; exact .base (.bl b)
  | int i => have h : RD K F H (.int i) v := h; unfold RD at h; subst h; exact .base (.int i)
  | str s => have h : RD K F H (.str s) v := h; unfold RD at h; subst h; exact .base (.str s)
  | dict kvs => have h : RD K F H (.dict kvs) v := h; unfold RD at h; obtain ⟨-, a, rfl, -, r⟩ := h; exact r.elim (fun e => .base (.dK e)) (fun ⟨o, e⟩ => .fDict e)
  | tuple xs =>
    obtain ⟨a, vs, rfl, h1, h2⟩ := RD.tup h
    rcases h1 with (h1 | ⟨o, h1⟩) | ⟨o, its, n, e, c, _⟩
    · exact .base (.tup h1)
    · exact .fTuple h1
    · exact .kTuple e c
  | list xs =>
    obtain ⟨a, vs, rfl, h1, h2⟩ := h
    rcases h1 with (h1 | ⟨o, h1⟩) | ⟨o, its, n, e, c, _⟩
    · exact .base (.lst h1)
    · exact .base (.frz h1)
    · exact .kList e c
theorem r_isi {f : Bf} (hf : isi f = true) {e : Expr} {ce : CE} {p p2 : Pos} (hg : Gl X "isinstance") (hm : X.mg "isinstance" = none) (hg2 : Gl X (bfN (isiF f))) (hm2 : X.mg (bfN (isiF f)) = none) (hs : nst e = true) (ha : PE X e (tE X.K P ce)) :
    PE X (.Call (.Name "isinstance" p) [e, .Name (bfN (isiF f)) p2] [] pos) (tE X.K P (.bf f [ce])) := by
  have hb2 : bootBuiltins (bfN (isiF f)) = some (.type (isiT f)) := by
    rw [boot_bf]
    cases f <;> simp [isi] at hf <;> rfl
  have hn2 : bfN (isiF f) ≠ "__name__" := by cases f <;> simp [isi] at hf <;> decide
  have hd2 : (bfN (isiF f) == ("__debug__" : Str)) = false := by cases f <;> simp [isi] at hf <;> decide
  have hb1 : bootBuiltins "isinstance" = some (.builtin "isinstance") := by decide +kernel
  have ha2 : PE X (.Name (bfN (isiF f)) p2) (tC (.ty (isiT f))) := pe_bltn hg2 hm2 hb2 (show RelV (.ty (isiT f)) (.type (isiT f)) from rfl) hn2 hd2
  refine PE.imp (pe_callB call_isi hg hm hb1 (pa_cons ha (pa_cons ha2 pa_nil) (nst_ok hs _ _)) (by decide) (by decide) (nst_ok hs _ _) (nst_all (by rfl))) fun σ H Q h => ?_
  obtain ⟨φ, F, ρ, S, hl, hρ, pv, S', e, q⟩ := h
  rw [ev] at e
  obtain ⟨⟨ps, S1⟩, e1, e⟩ := Option.bind_eq_some_iff.mp e
  obtain ⟨xs, e2, e⟩ := Option.bind_eq_some_iff.mp e
  obtain ⟨z, e3, e⟩ := Option.map_eq_some_iff.mp e
  cases e
  obtain ⟨x, rfl, rfl⟩ := isi_bfD hf e3
  rw [evp] at e1
  obtain ⟨⟨p1, S2⟩, e4, e1⟩ := Option.bind_eq_some_iff.mp e1
  rw [evp] at e1
  cases e1
  refine ⟨φ, F, ρ, S, hl, hρ, p1, S2, e4, fun φ1 F1 H1 v st hl1 r1 _ => ?_⟩
  have hv := (RPs.derefs hl1 (rps_cons r1 (by unfold RPs; rfl)) e2).one
  obtain ⟨v', ev', hv⟩ := hv
  cases ev'
  have t1 := hv.tyX
  exact ⟨v, .ty (isiT f), .type (tyD x), .type (isiT f), isiB f x, rfl, .ty _, t1, kit_ty (isi_kit hf), q φ1 F1 H1 _ st hl1 (by show RD X.K F1 H1 (.bool _) _; unfold RD; rfl) (fun _ _ e => nomatch e)⟩

/-! ### list(dict(pairs)) -/
theorem inl_inj : ∀ {a b : List Int}, a.map (Sum.inl : Int → L2.Key) = b.map Sum.inl → a = b
  | [], [], _ => rfl
  | [], _ :: _, e => by simp at e
  | _ :: _, [], e => by simp at e
  | x :: xs, y :: ys, e => by
    rw [List.map_cons, List.map_cons] at e
    injection e with e1 e2
    injection e1 with e1
    rw [e1, inl_inj e2]
theorem inl_kV (is : List Int) : (is.map (Sum.inl : Int → L2.Key)).map kV = is.map V.int := by rw [List.map_map]; rfl
theorem RDs.inv0' {K : Fg} {F : FS} {H : Hp} {vs : List V} (h : RDs K F H [] vs) : vs = [] := by unfold RDs at h; exact h
theorem paired_app {α β : Type} {R : α → β → Prop} : ∀ {as : List α} {bs : List β} {cs : List α} {ds : List β}, Paired R as bs → Paired R cs ds → Paired R (as ++ cs) (bs ++ ds)
  | _, _, _, _, .nil, r => r
  | _, _, _, _, .cons h t, r => .cons h (paired_app t r)
theorem ints_back : ∀ {us : List PyData} {is : List Int}, intsOf us = some is → us = is.map .int
  | [], is, e => by simp [intsOf] at e; subst e; rfl
  | u :: us, is, e => by
    cases u with
    | int i =>
      simp only [intsOf] at e
      obtain ⟨r, e1, rfl⟩ := Option.map_eq_some_iff.mp e
      rw [ints_back e1]
      rfl
    | _ => simp [intsOf] at e
theorem pairs_rds {K : Fg} {F : FS} {H : Hp} : ∀ {xs : List PyData} {ws : List V} {ks : List (List Int)}, RDs K F H xs ws → keysOf xs = some ks →
    ∃ (ps : List Addr) (kvs : List (List L2.Key × Addr × V)), ws = ps.map V.ref ∧ Paired (fun p kv => SqT K H p [.ref kv.2.1, kv.2.2] ∧ SqT K H kv.2.1 (kv.1.map kV)) ps kvs ∧
      Paired (fun (is : List Int) (kv : List L2.Key × Addr × V) => kv.1 = is.map Sum.inl ∧ RD K F H (.tuple (is.map .int)) (.ref kv.2.1)) ks kvs
  | [], ws, ks, h, e => by
    have := RDs.inv0' h
    subst this
    simp [keysOf] at e
    subst e
    exact ⟨[], [], rfl, .nil, .nil⟩
  | x :: xs, ws, ks, h, e => by
    unfold RDs at h
    obtain ⟨w, ws', rfl, h1, h2⟩ := h
    cases x with
    | tuple ts =>
      match ts, h1, e with
      | [], h1, e => simp [keysOf] at e
      | [_], h1, e => simp [keysOf] at e
      | _ :: _ :: _ :: _, h1, e => simp [keysOf] at e
      | [k, v], h1, e =>
        simp only [keysOf] at e
        obtain ⟨is, e1, e⟩ := Option.bind_eq_some_iff.mp e
        obtain ⟨ks', e2, rfl⟩ := Option.map_eq_some_iff.mp e
        obtain ⟨ps, kvs, rfl, r1, r2⟩ := pairs_rds h2 e2
        obtain ⟨p, vs, rfl, s1, s2⟩ := RD.tup h1
        unfold RDs at s2
        obtain ⟨kw, vs', rfl, s3, s4⟩ := s2
        unfold RDs at s4
        obtain ⟨vw, vs'', rfl, s5, s6⟩ := s4
        have := RDs.inv0' s6
        subst this
        cases k with
        | tuple us =>
          have s3' := s3
          obtain ⟨b, bs, rfl, t1, t2⟩ := RD.tup s3
          have e3 : us = is.map .int := ints_back e1
          subst e3
          have e4 := t2.ints e1
          subst e4
          refine ⟨p :: ps, (is.map Sum.inl, b, vw) :: kvs, rfl, .cons ⟨s1, ?_⟩ r1, .cons ⟨rfl, s3'⟩ r2⟩
          show SqT K H b ((is.map (Sum.inl : Int → L2.Key)).map kV)
          rw [inl_kV]
          exact t1
        | _ => simp [intsD] at e1
    | _ => simp [keysOf] at e
theorem once_keep {K : Fg} {F : FS} {H : Hp} : ∀ {ks : List (List Int)} {kvs : List (List L2.Key × Addr × V)} {ai : List (List Int)} {ak : List (List L2.Key × Addr)},
    Paired (fun (is : List Int) (kv : List L2.Key × Addr × V) => kv.1 = is.map Sum.inl ∧ RD K F H (.tuple (is.map .int)) (.ref kv.2.1)) ks kvs →
    Paired (fun (is : List Int) (x : List L2.Key × Addr) => x.1 = is.map Sum.inl ∧ RD K F H (.tuple (is.map .int)) (.ref x.2)) ai ak →
    Paired (fun (is : List Int) (x : List L2.Key × Addr) => x.1 = is.map Sum.inl ∧ RD K F H (.tuple (is.map .int)) (.ref x.2)) (onceI ai ks) (keepAll ak (kvs.map fun x => (x.1, x.2.1)))
  | _, _, ai, ak, .nil, r => r
  | _, _, ai, ak, .cons (a := is) (b := kv) h t, r => by
    have e : (is ∈ ai) ↔ ak.any (fun x => decide (x.1 = kv.1)) = true := by
      rw [h.1]
      clear t h
      induction r with
      | nil => simp
      | @cons a x as xs h1 _ ih =>
        rw [List.any_cons, Bool.or_eq_true, decide_eq_true_eq, List.mem_cons, ih, h1.1]
        constructor
        · rintro (rfl | q)
          · exact .inl rfl
          · exact .inr q
        · rintro (q | q)
          · exact .inl (inl_inj q).symm
          · exact .inr q
    show Paired _ (onceI (if is ∈ ai then ai else ai ++ [is]) _) (keepAll (keepK ak kv.1 kv.2.1) _)
    refine once_keep t ?_
    unfold keepK
    by_cases c : is ∈ ai
    · rw [if_pos c, if_pos (e.mp c)]
      exact r
    · rw [if_neg c, if_neg (fun q => c (e.mpr q))]
      exact paired_app r (.cons h .nil)
theorem rds_of_paired {K : Fg} {F : FS} {H : Hp} {ai : List (List Int)} {ak : List (List L2.Key × Addr)} (r : Paired (fun (is : List Int) (x : List L2.Key × Addr) => x.1 = is.map Sum.inl ∧ RD K F H (.tuple (is.map .int)) (.ref x.2)) ai ak) :
    RDs K F H (ai.map fun is => .tuple (is.map .int)) ((ak.map (·.2)).map V.ref) := by
  induction r with
  | nil => unfold RDs; rfl
  | cons h _ ih => exact .cons h.2 ih
theorem r_keys (hu : X.A.units + 200 < cLine) (hc : X.calm = true) {e : Expr} {ce : CE} {p p2 pos2 : Pos} (hg : Gl X "list") (hm : X.mg "list" = none) (hg2 : Gl X "dict") (hm2 : X.mg "dict" = none) (hs : nst e = true) (ha : PE X e (tE X.K P ce)) :
    PE X (.Call (.Name "list" p) [.Call (.Name "dict" p2) [e] [] pos2] [] pos) (tE X.K P (.bf .keys [ce])) := by
  have b1 : bootBuiltins "list" = some (.type "list") := by decide +kernel
  have b2 : bootBuiltins "dict" = some (.type "dict") := by decide +kernel
  refine PE.imp (pe_callTy (call_listX hc) hg hm b1 (pa_cons (pe_callTy (call_dictX hc hu) hg2 hm2 b2 (r_pcons hs ha r_pnil) (by decide) (by decide) (nst_ok hs _ _) (nst_all (by rfl))) pa_nil (by rfl)) (by decide) (by decide) (by rfl) (by rfl)) fun σ H Q h => ?_
  have h1 := to_bf σ H Q h
  obtain ⟨φ, F, ρ, S, hl, hρ, pvs, S', e1, q⟩ := h1
  refine ⟨φ, F, ρ, S, hl, hρ, pvs, S', e1, fun φ1 F1 H1 vs st hl1 r1 => ?_⟩
  obtain ⟨φ2, F2, S2, xs, z, hl2, hv, e2, out⟩ := q φ1 F1 H1 vs st hl1 r1
  match xs, hv, e2 with
  | [], hv, e2 => simp [bfD] at e2
  | _ :: _ :: _, hv, e2 => simp [bfD] at e2
  | [x], hv, e2 =>
    obtain ⟨v, rfl, hw⟩ := hv.one
    clear hv
    cases x with
    | list ys =>
      simp only [bfD] at e2
      obtain ⟨ks, e3, rfl⟩ := Option.map_eq_some_iff.mp e2
      have hv2 : VL X.K F2 H1 ys v := hw
      obtain ⟨a, ws, ev, g1, g2⟩ := hv2
      subst ev
      obtain ⟨ps, kvs, ew, r2, r3⟩ := pairs_rds g2 e3
      subst ew
      refine ⟨a, ps, kvs, rfl, g1, r2, fun p hp => ⟨p, _, rfl, upd_same, fun p' hp' => ?_⟩⟩
      have r4 := rds_of_paired (once_keep r3 .nil)
      have st2 : Stp φ2 F2 H1 φ2 F2 (upd H1 p (.ext (keysAt p ((keepAll [] (kvs.map fun x => (x.1, x.2.1))).map (·.2))))) := Stp.fresh hp
      have hl3 := hl2.fresh (o := .ext (keysAt p ((keepAll [] (kvs.map fun x => (x.1, x.2.1))).map (·.2)))) hp
      have r5 := RDs.step st2 hl2.inF r4
      exact out _ _ (st2.trans (Stp.fresh hp')) (hl3.fresh hp') (RD.lstNew hl3 hp' r5) fun _ us eu => by cases eu; exact (NewL.made hl3 hp' r5).back st2
    | _ => simp [bfD] at e2
/-! ### methods of the frame's lists -/
def rMet (K : Fg) (m : Mt) : V → List V → Hp → VK → Prop := fun v vs H Q => ∃ φ F S n p xs ws args z ys, Rl K φ F S H ∧ φ[n]? = some p ∧ v = .ref p.1 ∧ S[n]? = some (.lst xs) ∧ p.2 = none ∧ H p.1 = some (.lst ws) ∧ RDs K F H xs ws ∧
  RDs K F H args vs ∧ metD m xs args = some (z, ys) ∧ ∀ H' w, Stp φ F H φ F H' → Rl K φ F (S.set n (.lst ys)) H' → RD K F H' z w → Q w H'
theorem met_fin {K : Fg} {φ : Phi} {F : FS} {S : Store} {H : Hp} {n : Nat} {p : Addr × Option Addr} {xs ys : List PyData} {z : PyData} {w : V} {Q : VK} {us : List V} (hl : Rl K φ F S H) (hp : φ[n]? = some p) (e : S[n]? = some (.lst xs)) (h2 : p.2 = none)
    (r : RDs K F H ys us) (rz : RD K F H z w) (q : ∀ H' w, Stp φ F H φ F H' → Rl K φ F (S.set n (.lst ys)) H' → RD K F H' z w → Q w H') : Q w (upd H p.1 (.lst us)) :=
  q _ w (Stp.write hp) (hl.write hp h2 (List.getElem?_eq_some_iff.mp e).1 r) (rz.step (Stp.write hp) hl.inF)
def mtId : Mt → String
  | .append => "list.append"
  | .insert => "list.insert"
  | .pop => "list.pop"
  | .popAt => "list.pop"
  | .remove => "list.remove"
  | .extend => "list.extend"
  | .index => "list.index"
theorem RDs.inv1 {K : Fg} {F : FS} {H : Hp} {x : PyData} {vs : List V} (h : RDs K F H [x] vs) : ∃ v, vs = [v] ∧ RD K F H x v := by
  unfold RDs at h
  obtain ⟨v, r, rfl, h1, h2⟩ := h
  unfold RDs at h2
  subst h2
  exact ⟨v, rfl, h1⟩
theorem RDs.inv2 {K : Fg} {F : FS} {H : Hp} {x y : PyData} {vs : List V} (h : RDs K F H [x, y] vs) : ∃ v w, vs = [v, w] ∧ RD K F H x v ∧ RD K F H y w := by
  unfold RDs at h
  obtain ⟨v, r, rfl, h1, h2⟩ := h
  obtain ⟨w, rfl, h3⟩ := h2.inv1
  exact ⟨v, w, rfl, h1, h3⟩
theorem RDs.inv0 {K : Fg} {F : FS} {H : Hp} {vs : List V} (h : RDs K F H [] vs) : vs = [] := by unfold RDs at h; exact h
theorem RD.isInt {K : Fg} {F : FS} {H : Hp} {i : Int} {v : V} (h : RD K F H (.int i) v) : v = .int i := by unfold RD at h; exact h
theorem opr_met (hu : X.A.units + 200 < cLine) (m : Mt) : MtR X (mtId m) (rMet X.K m) := by
  intro pins s σ H x vs v us Q I rx ru h
  obtain ⟨φ, F, S, n, p, xs, ws, args, z, ys, hl, hp, rfl, e, h2, hw, r1, r2, em, q⟩ := h
  have lenEq := r1.length
  cases m with
  | append =>
    match args, em with
    | [a], em =>
      obtain ⟨y, rfl, ry⟩ := r2.inv1
      simp only [metD] at em
      split at em
      · rename_i hz
        cases em
        exact mt_append pins s σ H _ _ v us Q I rx ru ⟨p.1, ws, y, rfl, rfl, hw, by rw [← lenEq]; exact hz, met_fin hl hp e h2 (r1.append (.cons ry .nil)) .none q⟩
      · cases em
    | [], em => simp [metD] at em
    | _ :: _ :: _, em => simp [metD] at em
  | insert =>
    match args, em with
    | [.int i, a], em =>
      obtain ⟨vi, y, rfl, ri, ry⟩ := r2.inv2
      have ri := ri.isInt
      subst ri
      simp only [metD] at em
      split at em
      · rename_i hz
        cases em
        exact mt_insert pins s σ H _ _ v us Q I rx ru ⟨p.1, ws, i, y, rfl, rfl, hw, by rw [← lenEq]; exact hz.1, hz.2.1, hz.2.2, met_fin hl hp e h2 (((r1.take _).append (.cons ry .nil)).append (r1.drop _)) .none q⟩
      · cases em
    | [], em => simp [metD] at em
    | [_], em => simp [metD] at em
    | [.none, _], em => simp [metD] at em
    | [.bool _, _], em => simp [metD] at em
    | [.str _, _], em => simp [metD] at em
    | [.list _, _], em => simp [metD] at em
    | [.tuple _, _], em => simp [metD] at em
    | [.dict _, _], em => simp [metD] at em
    | _ :: _ :: _ :: _, em => simp [metD] at em
  | pop =>
    match args, em with
    | [], em =>
      have := r2.inv0
      subst this
      simp only [metD] at em
      obtain ⟨y, e1, em⟩ := Option.map_eq_some_iff.mp em
      cases em
      rw [List.getLast?_eq_getElem?] at e1
      obtain ⟨w, ew, rw⟩ := r1.get e1
      exact mt_pop pins s σ H _ _ v us Q I rx ru ⟨p.1, ws, w, rfl, rfl, hw, by rw [← lenEq]; exact ew, met_fin hl hp e h2 r1.dropLast rw q⟩
    | _ :: _, em => simp [metD] at em
  | popAt =>
    match args, em with
    | [.int i], em =>
      obtain ⟨vi, rfl, ri⟩ := r2.inv1
      have ri := ri.isInt
      subst ri
      simp only [metD] at em
      split at em
      · rename_i hz
        obtain ⟨k, e1, em⟩ := Option.bind_eq_some_iff.mp em
        obtain ⟨y, e2, em⟩ := Option.map_eq_some_iff.mp em
        cases em
        obtain ⟨w, ew, rw⟩ := r1.get e2
        have e1' : L2.ixN ws.length i = some k := by rw [← lenEq]; exact e1
        exact mt_popAt pins s σ H _ _ v us Q I rx ru ⟨p.1, ws, i, k, w, rfl, rfl, hw, hz.1, hz.2, (ixN_seq e1').1, ew, met_fin hl hp e h2 (r1.eraseIdx _) rw q⟩
      · cases em
    | [], em => simp [metD] at em
    | [.none], em => simp [metD] at em
    | [.bool _], em => simp [metD] at em
    | [.str _], em => simp [metD] at em
    | [.list _], em => simp [metD] at em
    | [.tuple _], em => simp [metD] at em
    | [.dict _], em => simp [metD] at em
    | _ :: _ :: _, em => simp [metD] at em
  | remove =>
    match args, em with
    | [a], em =>
      obtain ⟨y, rfl, ry⟩ := r2.inv1
      simp only [metD] at em
      split at em
      · rename_i hsh
        simp only [Bool.and_eq_true] at hsh
        obtain ⟨j, e1, em⟩ := Option.map_eq_some_iff.mp em
        cases em
        have nd : PyData.hasDictAll xs = false := shp_nd 12 (.list xs) hsh.1
        exact mt_remD (by omega) pins s σ H _ _ v us Q I rx ru ⟨p.1, ws, y, a, xs, j, rfl, rfl, hw, RDs.dp nd r1, RD.dp (shp_nd 12 _ hsh.2) ry, shaped_of hsh.1, shaped_of hsh.2, e1, met_fin hl hp e h2 (r1.eraseIdx _) .none q⟩
      · cases em
    | [], em => simp [metD] at em
    | _ :: _ :: _, em => simp [metD] at em
  | _ => cases args <;> simp [metD] at em
theorem of_isLst {S : Store} {n : Nat} (h : isLst S n = true) : ∃ xs, S[n]? = some (.lst xs) := by
  unfold isLst at h
  split at h
  · rename_i xs hx; exact ⟨xs, hx⟩
  · cases h
/-- the tree of a list's method -/
theorem to_met {m : Mt} (hm : m ≠ .index) {co : CE} {ces : List CE} (σ : St) (H : Hp) (Q : VK) (h : tE X.K P (.met m co ces) σ H Q) : tBM X.K "list" (rMet X.K m) (tE X.K P co) (tS X.K P ces) σ H Q := by
  obtain ⟨φ, F, ρ, S, hl, hρ, pv, S', e, q⟩ := h
  rw [ev] at e
  obtain ⟨⟨po, S1⟩, e1, e⟩ := Option.bind_eq_some_iff.mp e
  cases po with
  | d x =>
    simp only at e
    obtain ⟨⟨as, S2⟩, e2, e⟩ := Option.bind_eq_some_iff.mp e
    obtain ⟨z, e3, e⟩ := Option.map_eq_some_iff.mp e
    cases m <;> first | (exact absurd rfl hm) | (simp [metV] at e3)
  | r n =>
    simp only at e
    split at e
    rotate_left
    · cases e
    rename_i hlst
    obtain ⟨xs1, ho⟩ := of_isLst hlst
    obtain ⟨⟨as, S2⟩, e2, e⟩ := Option.bind_eq_some_iff.mp e
    simp only [metS] at e
    split at e
    · rename_i xs hx
      obtain ⟨⟨z, ys⟩, e3, e⟩ := Option.map_eq_some_iff.mp e
      cases e
      refine ⟨φ, F, ρ, S, hl, hρ, .r n, S1, e1, fun φ1 F1 H1 v st1 hl1 r1 _ => ?_⟩
      obtain ⟨p, hp, rfl⟩ := r1
      obtain ⟨p', vs', hp', _, hw', _⟩ := hl1.lst ho
      rw [hp] at hp'; cases hp'
      refine ⟨.inl ⟨rfl, vs', .inl (.inl hw')⟩, φ1, F1, ρ, S1, hl1, hρ.step st1 hl, as, S2, e2, fun φ2 F2 H2 vs st2 hl2 r2 => ?_⟩
      obtain ⟨p2, ws, hp2, h2, hw, rw⟩ := hl2.lst hx
      obtain ⟨q2, hq2, eq2⟩ := RP.step (pv := .r n) (v := .ref p.1) st2 hl1 ⟨p, hp, rfl⟩
      rw [hp2] at hq2; cases hq2
      have eq2 : V.ref p.1 = .ref p2.1 := eq2
      rw [eq2]
      refine ⟨φ2, F2, S2, n, p2, xs, ws, as, z, ys, hl2, hp2, rfl, hx, h2, hw, rw, r2, e3, fun H' w st hl' r => ?_⟩
      exact q φ2 F2 H' w ((st1.trans st2).trans st) hl' r (fun e => nomatch e)
    · cases e
/-- a method's name -/
def mtN : Mt → Str
  | .append => "append"
  | .insert => "insert"
  | .pop => "pop"
  | .popAt => "pop"
  | .remove => "remove"
  | .extend => "extend"
  | .index => "index"
theorem r_met0 (hu : X.A.units + 200 < cLine) {o : Expr} {co : CE} {apos : Pos} (ho : PE X o (tE X.K P co)) (hb : attributeBase o "pop" X.env (eval o X.env) = eval o X.env) (hline : (apos.endLine == pos.line) = true) :
    PE X (.Call (.Attribute o "pop" apos) [] [] pos) (tE X.K P (.met .pop co [])) := by
  refine PE.imp (pe_bm0 PySem.F.plainAttrs_list PySem.F.slot_list_pop PySem.F.type_list_pop (opr_met hu .pop) ho hb hline) fun σ H Q h => ?_
  have h1 : tBM X.K "list" (rMet X.K .pop) (tE X.K P co) (tS X.K P []) σ H Q := to_met (by decide) σ H Q h
  obtain ⟨φ, F, ρ, S, hl, hρ, pv, S', e, q⟩ := h1
  refine ⟨φ, F, ρ, S, hl, hρ, pv, S', e, fun φ1 F1 H1 v st hl1 r1 nl => ?_⟩
  obtain ⟨ty, φ2, F2, ρ2, S2, hl2, hρ2, xs, S3, e2, q2⟩ := q φ1 F1 H1 v st hl1 r1 nl
  rw [evs] at e2
  cases e2
  exact ⟨ty, q2 φ2 F2 H1 [] Stp.refl hl2 .nil⟩
theorem nst_few {es : List Expr} {env : Env} (h : es.all nst = true) (hl : es.length < 20) : ((backTo pos (starEach es env)).all (fun x => !x.1) && (backToKw pos (keywordEach [] env)).all (fun x => x.1.isSome)
      && decide (es.length + ([] : List Keyword).length + (if ([] : List Keyword).isEmpty then 0 else 1) < 30)) = true := by
  have h1 := nst_all (pos := pos) (env := env) h
  have h2 : (backTo pos (starEach es env)).all (fun x => !x.1) = true := by
    rw [List.all_eq_true]
    intro x hx
    have := List.any_eq_false.mp h1 x hx
    simpa using this
  rw [h2]
  simp [keywordEach, backToKw]
  omega
theorem r_met (hu : X.A.units + 200 < cLine) {m : Mt} {o e : Expr} {es : List Expr} {co : CE} {ces : List CE} {apos : Pos} (hm : m = .append ∨ m = .insert ∨ m = .popAt ∨ m = .remove) (ho : PE X o (tE X.K P co)) (ha : PA X (e :: es) (tS X.K P ces)) (hb : attributeBase o (mtN m) X.env (eval o X.env) = eval o X.env)
    (hs : (e :: es).all nst = true) (hz : (e :: es).length < 20) (hline : (apos.endLine == pos.line) = true) : PE X (.Call (.Attribute o (mtN m) apos) (e :: es) [] pos) (tE X.K P (.met m co ces)) := by
  have hs1 : nst e = true := by rw [List.all_cons, Bool.and_eq_true] at hs; exact hs.1
  have hs2 : es.all nst = true := by rw [List.all_cons, Bool.and_eq_true] at hs; exact hs.2
  rcases hm with rfl | rfl | rfl | rfl
  · exact PE.imp (pe_bm PySem.F.plainAttrs_list PySem.F.slot_list_append PySem.F.type_list_append (opr_met hu .append) ho ha hb (nst_few hs hz) hline (nst_ok hs1 _ _) (nst_all hs2)) (to_met (by decide))
  · exact PE.imp (pe_bm PySem.F.plainAttrs_list PySem.F.slot_list_insert PySem.F.type_list_insert (opr_met hu .insert) ho ha hb (nst_few hs hz) hline (nst_ok hs1 _ _) (nst_all hs2)) (to_met (by decide))
  · exact PE.imp (pe_bm PySem.F.plainAttrs_list PySem.F.slot_list_pop PySem.F.type_list_pop (opr_met hu .popAt) ho ha hb (nst_few hs hz) hline (nst_ok hs1 _ _) (nst_all hs2)) (to_met (by decide))
  · exact PE.imp (pe_bm PySem.F.plainAttrs_list PySem.F.slot_list_remove PySem.F.type_list_remove (opr_met hu .remove) ho ha hb (nst_few hs hz) hline (nst_ok hs1 _ _) (nst_all hs2)) (to_met (by decide))
/-! ### index of a list that is data -/
theorem metV_idx {x : PyData} {as : List PyData} {z : PyData} (h : metV .index x as = some z) : ∃ (xs : List PyData) (y : PyData) (j : Nat), x = .list xs ∧ as = [y] ∧ z = .int j ∧ shp 12 (.list xs) = true ∧ shp 12 y = true ∧ xs.findIdx? (fun z => PyData.eqv z y) = some j := by
  cases x with
  | list xs =>
    match as, h with
    | [], h => simp [metV] at h
    | _ :: _ :: _, h => simp [metV] at h
    | [y], h =>
      simp only [metV] at h
      split at h
      · rename_i hsh
        simp only [Bool.and_eq_true] at hsh
        obtain ⟨j, e, rfl⟩ := Option.map_eq_some_iff.mp h
        exact ⟨xs, y, j, rfl, rfl, rfl, hsh.1, hsh.2, e⟩
      · cases h
  | _ => simp [metV] at h
theorem to_idx {co : CE} {ces : List CE} (σ : St) (H : Hp) (Q : VK) (h : tE X.K P (.met .index co ces) σ H Q) : tBM X.K "list" (rIndexD X.K) (tE X.K P co) (tS X.K P ces) σ H Q := by
  obtain ⟨φ, F, ρ, S, hl, hρ, pv, S', e, q⟩ := h
  rw [ev] at e
  obtain ⟨⟨po, S1⟩, e1, e⟩ := Option.bind_eq_some_iff.mp e
  cases po with
  | r n =>
    simp only at e
    split at e
    rotate_left
    · cases e
    obtain ⟨⟨as, S2⟩, e2, e⟩ := Option.bind_eq_some_iff.mp e
    simp only [metS] at e
    split at e
    · cases as <;> simp [metD] at e
    · cases e
  | d x =>
    simp only at e
    obtain ⟨⟨as, S2⟩, e2, e⟩ := Option.bind_eq_some_iff.mp e
    obtain ⟨z, e3, e⟩ := Option.map_eq_some_iff.mp e
    cases e
    obtain ⟨xs, y, j, rfl, rfl, rfl, hsh1, hsh2, e4⟩ := metV_idx e3
    obtain ⟨hj, hj1, hj2⟩ := List.findIdx?_eq_some_iff_getElem.mp e4
    refine ⟨φ, F, ρ, S, hl, hρ, .d (.list xs), S1, e1, fun φ1 F1 H1 v st1 hl1 r1 _ => ?_⟩
    have r1 : RD X.K F1 H1 (.list xs) v := r1
    obtain ⟨a, ws, rfl, g1, g2⟩ := VD.items (VD.of r1) rfl
    refine ⟨?_, φ1, F1, ρ, S1, hl1, hρ.step st1 hl, [y], S2, e2, fun φ2 F2 H2 vs st2 hl2 r2 => ?_⟩
    · unfold RD at r1
      obtain ⟨a', ws', e', h1, -⟩ := r1
      cases e'
      refine .inl ⟨rfl, ws', ?_⟩
      rcases h1 with ⟨-, h1⟩ | h1
      · exact .inl h1
      · exact .inr h1
    · obtain ⟨w, rfl, rw⟩ := r2.inv1
      have r1' : RD X.K F2 H2 (.list xs) (.ref a) := r1.step st2 hl1.inF
      refine ⟨a, w, y, xs, j, xs[j], rfl, rfl, RD.dp (shp_nd 12 _ hsh1) r1', RD.dp (shp_nd 12 _ hsh2) rw, shaped_of hsh1, shaped_of hsh2, List.getElem?_eq_getElem hj, hj1, fun m z' hm hz' => ?_, ?_⟩
      · obtain ⟨hml, rfl⟩ := List.getElem?_eq_some_iff.mp hz'
        have := hj2 m hm
        simpa using this
      · exact q φ2 F2 H2 (.int (j : Nat)) (st1.trans st2) hl2 (by show RD X.K F2 H2 (.int j) _; unfold RD; rfl) (fun e => nomatch e)
theorem r_idx {o e : Expr} {co ce : CE} {apos : Pos} (hu : X.A.units + 200 < cLine) (ho : PE X o (tE X.K P co)) (ha : PA X [e] (tS X.K P [ce])) (hb : attributeBase o "index" X.env (eval o X.env) = eval o X.env)
    (hs : nst e = true) (hline : (apos.endLine == pos.line) = true) : PE X (.Call (.Attribute o "index" apos) [e] [] pos) (tE X.K P (.met .index co [ce])) := by
  have hs' : [e].all nst = true := by simp [hs]
  exact PE.imp (pe_bm PySem.F.plainAttrs_list PySem.F.slot_list_index PySem.F.type_list_index (mt_indexD (by omega)) ho ha hb (nst_few hs' (by simp)) hline (nst_ok hs _ _) (nst_all (by rfl))) to_idx
end
end Cr

/-! ## CrF0 -/
set_option Elab.async false
set_option linter.all false
set_option autoImplicit false
set_option maxRecDepth 100000
set_option maxHeartbeats 4000000
/-! CrF0: what a function promises where no repr is under way. -/
namespace Cr
open PySem PySem.Spec L2
open PyProof.Rows (envOfC)
open PyProof.Rows (AllBare IntsAre)

structure FnG (pr : Program) (w : World) (K : Fg) (mg : Str → Option Value) (base : Heap) (k : Nat) (f : Addr) (fd : FuncData) (ps : List Str) (sp : Sp) : Prop where
  len : ∀ vs H Q E, sp vs H Q E → vs.length = ps.length
  go : ∀ (A : Around) (out : List Env) (s : Shared) (H : Hp) (ar : Args) (us : List Value) (vs : List V) (Q : VK) (E : XK), A.guards = some [] → Room k A → Env0 pr w K mg base A out s H → BindsTo s fd ar (ps.zip us) → Vals vs us →
    sp vs H Q E → codeAny (model pr w) A (.call (.ref f) ar) (CR L2.CX0 out pr w H s Q E) s
section
variable {pr : Program} {w : World} {K : Fg} {mg : Str → Option Value} {base : Heap} {k j : Nat} {f : Addr} {fd : FuncData} {ps : List Str} {sp sp' : Sp}
theorem FnG.of (F : FnOk pr w K mg base L2.CX0 k f fd ps sp) : FnG pr w K mg base k f fd ps sp := ⟨F.len, fun A out s H ar us vs Q E _ => F.run A out s H ar us vs Q E⟩
theorem FnG.mono (F : FnG pr w K mg base j f fd ps sp) (h : j ≤ k) : FnG pr w K mg base k f fd ps sp := ⟨F.len, fun A out s H ar us vs Q E hg hr => F.go A out s H ar us vs Q E hg (hr.mono h)⟩
theorem FnG.imp (F : FnG pr w K mg base k f fd ps sp) (h : ∀ vs H Q E, sp' vs H Q E → sp vs H Q E) : FnG pr w K mg base k f fd ps sp' :=
  ⟨fun vs H Q E q => F.len vs H Q E (h vs H Q E q), fun A out s H ar us vs Q E hg hr e0 hb rv q => F.go A out s H ar us vs Q E hg hr e0 hb rv (h vs H Q E q)⟩
end
section
variable {X : Cx} {k : Nat} {f : Addr} {fd : FuncData} {ps : List Str} {sp : Sp} {x : Str} {p pos : Pos} {e : Expr} {es : List Expr} {t : TA}
/-- the callee runs, no repr under way -/
theorem run_g {pins : List (Addr × Obj)} {σ : St} {H : Hp} {s : Shared} {Q : VK} {us : List Value} {vs : List V} (F : FnG X.prog X.w X.K X.mg X.base k f fd ps sp) (gd : X.A.guards = some []) (room : Room k X.A) (bn : Binds X.K fd ps []) (I : Inv X pins σ H s)
    (rv : Vals vs us) (q : sp vs H Q fun _ _ _ => False) : wpAny (model X.prog X.w) X.A (call (.ref f) us) (EP X pins σ Q) X.xe s := by
  have n1 : us.length = ps.length := (rv.length).symm.trans (F.len _ _ _ _ q)
  have b1 := bn s us I.kIn (by rw [List.append_nil]; exact n1)
  rw [List.append_nil] at b1
  have g1 := F.go X.A X.stack s H ⟨us, []⟩ us vs Q (fun _ _ _ => False) gd room I.env0 b1 rv q
  refine wpAny_call (codeAny_mono g1 ?_)
  intro res s' hq
  match res, hq with
  | .ok (.ret u), hq => exact I.after hq
  | .ok .next, hq => exact hq.elim
  | .ok .brk, hq => exact hq.elim
  | .ok .cont, hq => exact hq.elim
  | .error ev, hq => exact hq.elim
/-- f(..) of the text, no repr under way -/
theorem pe_callG (F : FnG X.prog X.w X.K X.mg X.base k f fd ps sp) (gd : X.A.guards = some []) (room : Room k X.A) (gl : Gl X x) (gm : X.mg x = some (.ref f)) (kp : PySem.W.keepIn X.K (.ref f) = true) (bn : Binds X.K fd ps []) (ha : PA X (e :: es) t)
    (hdb : (x == ("__debug__" : Str)) = false) (h1 : starEach (e :: es) X.env = (false, eval e X.env) :: starEach es X.env) (h2 : (backTo pos (starEach es X.env)).any (·.1) = false) :
    PE X (.Call (.Name x p) (e :: es) [] pos) (tCall sp [] (fun _ _ _ => False) t) := by
  refine ⟨fun pins s σ H Q I h => wpAny_Call_Name_kw (ld_glob I gl gm ?_ hdb)⟩
  refine PySem.W.callWith_K (h₀ := X.base) I.ok.mod.kin kp (thn (ha.run pos pins s σ H _ I h) ?_) h1 h2
  rintro us s1 ⟨vs, H1, I1, rv, q⟩
  rw [List.append_nil] at q
  exact ⟨I1.kIn, run_g F gd room bn I1 rv q⟩
end
section
variable {pr : Program} {w : World} {K : Fg} {mg : Str → Option Value} {base : Heap}
/-- a def of the text by its body, no repr under way -/
theorem fng_of {x qual : Str} {st : Stmt} {f : Addr} {fd : FuncData} {N ps : List Str} {k : Nat} {sp : Sp} (Fn : Fun K x qual st f fd) (sc : FnScope N ps (defScope st)) (len : ∀ vs H Q E, sp vs H Q E → vs.length = ps.length)
    (hb : ∀ (cdv : Value) (A : Around) (out : List Env) (s : Shared) (H : Hp) (vs : List V) (Q : VK) (E : XK), A.guards = some [] → Room k (A.deeper (envOfC qual (defScope st) s.heap.objs.size f cdv)) → sp vs H Q E →
      ∃ t, PSs (cxOf L2.CX0 pr w K mg base N qual (defScope st) f cdv A out s H E).nox (defBody st) t ∧ t { nx := fun _ H' => Q .non H', rt := Q } (start N vs) H) : FnG pr w K mg base (k + 1) f fd ps sp := by
  obtain ⟨oc, od, kV, doc, pm, an, cdv, ct, osl, rfl, look, hcd⟩ := Fn.ex
  refine ⟨len, fun A out s H ar us vs Q E gd room e0 bn rv q => ?_⟩
  have there : ∀ b o, base.get? b = some o → s.heap.get? b = some o := fun b o e => (e0.bs b o e).1
  have kin := e0.mod.kin.keeps there
  have names : ∀ y ∈ ps.zip us, (defScope st).names.lookup y.1 = some .local ∨ ((defScope st).names.lookup y.1 = some .cell ∧ ((cellsFrom (s.heap.objs.size + 1) (defScope st).names []).lookup y.1).isSome = true) := by
    rintro ⟨n, u⟩ hy
    refine (sc.par n (List.of_mem_zip hy).1).imp id fun q1 => ⟨q1, ?_⟩
    exact PySem.W.cellsFrom_some _ _ _ (.inl q1)
  refine codeAny_call_function room.depth (kin _ _ look) rfl sc.co sc.gen rfl (PySem.W.codeRec_of kin hcd) (bn _ _ _ _ (wpAny_newFunctionEnv_cells sc.kind names ?_))
  rintro env rfl s1 inC
  refine ⟨(e0.mod.nolimit.keeps there).keeps inC.toInCall.keep, codeAny_func ?_⟩
  obtain ⟨t, ht, hq⟩ := hb cdv A out s H vs Q E gd (room.deeper _) q
  have I : Inv (cxOf L2.CX0 pr w K mg base N qual (defScope st) f cdv A out s H E) [] (start N vs) H s1 := inv_start sc room.hd e0 (len _ _ _ _ q) rv inC
  refine wpAny_mono (ht.nox.run [] s1 (start N vs) H _ I hq) ?_ (fun _ _ z => z)
  intro fl s' z
  have done : ∀ (v : V) (u : Value) (σ' : St) (H' : Hp), Inv (cxOf L2.CX0 pr w K mg base N qual (defScope st) f cdv A out s H E) [] σ' H' s' → RelV v u → Q v H' → L2.CE out pr w H s Q u s' :=
    fun v u σ' H' J r1 q1 => ⟨v, H', J.os, J.bare, J.base, J.hok, r1, q1⟩
  match fl, z with
  | .ret u, ⟨v, σ', H', J, r1, q1⟩ => exact done v u σ' H' J r1 q1
  | .next, ⟨σ', H', J, q1⟩ => exact done .non .none σ' H' J rfl q1
  | .brk, ⟨_, _, _, q1⟩ => exact q1.elim
  | .cont, ⟨_, _, _, q1⟩ => exact q1.elim
end
/-! ### the law's own call -/
section
variable {pr : Program} {w : World} {K : Fg} {mg mb : Str → Option Value} {k : Nat} {fa a : Addr} {fd : FuncData} {x : Str} {sp : Sp} {s1 : Shared} {vs : List Value} {ns : List Int}
theorem top_core (kin : K.In s1.heap) (gs : s1.heap.Ns mainGlobals mg) (bs : s1.heap.Ns builtinsNs mb) (bb : ∀ x : Str, x ≠ "__name__" → mb x = bootBuiltins x) (nl : s1.heap.NoLimit) (gn : s1.gens = #[])
    (ha : s1.heap.get? a = some { cls := .type "list", data := .seq vs.toArray }) (room : Room k callerA) (F : ∀ base : Heap, K.In base → base.Ns mainGlobals mg → FnG pr w K mg base k fa fd [x] sp)
    (bn : ∀ (s : Shared) (u : Value), BindsTo s fd ⟨[u], []⟩ [(x, u)]) {H : Hp} (only : Only H) (hok : HOk pr w H s1.heap) (just : ∀ b, H b ≠ none → b = a) (ka : H a ≠ none → K.lookup a = none) (q : sp [.ref a] H (fun v _ => v = .bl true) fun _ _ _ => False) :
    codeAny (model pr w) callerA (.call (.ref fa) ⟨[.ref a], []⟩) (fun r s' => r = .ok (.ret (.bool true)) ∧ OldK s1.heap s'.heap ∧ s'.os = s1.os ∧ AllBare s'.gens) s1 := by
  have free : ∀ {b : Addr}, b ≠ a → H b = none := fun {b} h => Classical.byContradiction fun z => h (just b z)
  have dict0 : ∀ {b : Addr} {o : Obj} {es : Array DictEntry} {ep : Nat}, s1.heap.get? b = some o → o.data = .dict es ep → H b = none := by
    intro b o es ep e1 e2
    apply free
    rintro rfl
    rw [ha] at e1
    cases e1
    exact nomatch (show Data.seq vs.toArray _ = Data.dict es ep from e2)
  have ns0 : ∀ {b : Addr} {m : Str → Option Value}, s1.heap.Ns b m → (hidT s1.heap H).Ns b m := by
    rintro b m ⟨o, es, ep, e1, e2, r⟩
    exact ⟨o, es, ep, hidT_get e1 (dict0 e1 e2), e2, r⟩
  have kin0 : K.In (hidT s1.heap H) := by
    intro b o e1
    refine hidT_get (kin b o e1) (Classical.byContradiction fun z => ?_)
    have e2 := just b z
    subst e2
    rw [ka z] at e1
    cases e1
  have md : Mod K mg (hidT s1.heap H) := by
    obtain ⟨mc, n1, n2⟩ := nl
    exact ⟨kin0, ns0 gs, ⟨mb, ns0 bs, bb⟩, ⟨mc, ns0 n1, n2⟩⟩
  have e0 : Env0 pr w K mg (hidT s1.heap H) callerA [] s1 H := by
    refine ⟨rfl, md, fun _ _ e1 => of_hidT e1, Nat.le_of_eq (hidT_size _ _), trivial, ?_, hok, .of_eq gn⟩
    intro b hb
    exact nomatch (show b ∈ ([] : List Addr) from hb)
  have run := (F _ kin0 (ns0 gs)).go callerA [] s1 H ⟨[.ref a], []⟩ [.ref a] [.ref a] _ _ rfl room e0 (bn s1 (.ref a)) (.cons rfl .nil) q
  refine codeAny_mono run ?_
  intro res s' z
  match res, z with
  | .error ev, z => exact z.elim
  | .ok .next, z => exact z.elim
  | .ok .brk, z => exact z.elim
  | .ok .cont, z => exact z.elim
  | .ok (.ret u), ⟨v, H', o1, o2, un, hok', rv, qv⟩ =>
    have ev : v = .bl true := qv
    subst ev
    have eu : u = Value.bool true := rv
    subst eu
    refine ⟨rfl, OldK.of_keep ?_, o1, o2⟩
    intro b o e1
    cases hb : H b with
    | none => exact un.keep b o e1 hb (fun z => nomatch (show b ∈ ([] : List Addr) from z)) (by simp)
    | some u =>
      obtain ⟨ob, xs, e2⟩ : ∃ o xs, H b = some (.frz o (.lst xs)) := (only b).resolve_left (by rw [hb]; simp)
      have k1 := (hok b _ e2).1
      have k2 := (hok' b _ (un.frzs b ob _ e2)).1
      rw [e1] at k1
      cases k1
      exact k2
theorem top_call (kin : K.In s1.heap) (gs : s1.heap.Ns mainGlobals mg) (bs : s1.heap.Ns builtinsNs mb) (bb : ∀ x : Str, x ≠ "__name__" → mb x = bootBuiltins x) (nl : s1.heap.NoLimit) (gn : s1.gens = #[])
    (ha : s1.heap.get? a = some { cls := .type "list", data := .seq vs.toArray }) (hi : IntsAre vs ns) (hl : ns.length ≤ sizeLine) (room : Room k callerA) (F : ∀ base : Heap, K.In base → base.Ns mainGlobals mg → FnG pr w K mg base k fa fd [x] sp)
    (bn : ∀ (s : Shared) (u : Value), BindsTo s fd ⟨[u], []⟩ [(x, u)]) (hsp : ∀ H : Hp, Only H → SqL K H a (ns.map V.int) → sp [.ref a] H (fun v _ => v = .bl true) fun _ _ _ => False) :
    codeAny (model pr w) callerA (.call (.ref fa) ⟨[.ref a], []⟩) (fun r s' => r = .ok (.ret (.bool true)) ∧ OldK s1.heap s'.heap ∧ s'.os = s1.os ∧ AllBare s'.gens) s1 := by
  have rv : Vals (ns.map V.int) vs := L2.vals_ints hi
  by_cases hk : K.lookup a = none
  · let Ha : Hp := fun b => if b = a then some (.frz { cls := .type "list", data := .seq vs.toArray } (.lst (ns.map V.int))) else none
    have at1 : Ha a = some (.frz { cls := .type "list", data := .seq vs.toArray } (.lst (ns.map V.int))) := if_pos rfl
    have at2 : ∀ {b : Addr}, b ≠ a → Ha b = none := fun h => if_neg h
    have on : Only Ha := fun b => by
      by_cases h : b = a
      · subst h; exact .inr ⟨_, _, at1⟩
      · exact .inl (at2 h)
    refine top_core kin gs bs bb nl gn ha room F bn on ?_ (fun b z => Classical.byContradiction fun h => z (at2 h)) (fun _ => hk) (hsp Ha on (.inl (.inr ⟨_, at1⟩)))
    intro b u e1
    by_cases h : b = a
    · subst h
      rw [at1] at e1
      cases e1
      exact ⟨ha, by rw [List.length_map]; exact hl, vs, _, rv, ha⟩
    · rw [at2 h] at e1
      cases e1
  · obtain ⟨o, ho⟩ := Option.ne_none_iff_exists'.mp hk
    have e1 := kin a o ho
    rw [ha] at e1
    cases e1
    have on : Only (fun _ => none) := fun _ => .inl rfl
    refine top_core kin gs bs bb nl gn ha room F bn on (fun b u z => nomatch z) (fun b z => absurd rfl z) (fun z => absurd rfl z) (hsp _ on (.inr ⟨_, vs.toArray, _, ho, rfl, rfl, rfl, ?_, by simpa using rv⟩))
    rw [List.size_toArray, hi.length]
    exact hl
end
end Cr

/-! ## CrF -/
set_option Elab.async false
set_option linter.all false
set_option autoImplicit false
set_option maxRecDepth 100000
set_option maxHeartbeats 4000000
/-! CrF: calls of the program's own defs. -/
namespace Cr
open PySem PySem.Spec L2

section
variable {K : Fg} {φ : Phi} {F F1 : FS} {H : Hp} {S : Store}
mutual
theorem RD.up (hF : ∀ a, F a → ¬ F1 a → ∃ vs, H a = some (.lst vs)) : ∀ {x : PyData} {v : V}, nl x = true → RD K F1 H x v → RD K F H x v
  | .none, _, _, h => h
  | .bool _, _, _, h => h
  | .int _, _, _, h => h
  | .str _, _, _, h => h
  | .list xs, _, e, _ => by simp [nl] at e
  | .dict _, _, e, _ => by simp [nl] at e
  | .tuple xs, v, e, h => by
    unfold RD at h ⊢
    simp only [nl] at e
    obtain ⟨a, vs, e1, h1, h2⟩ := h
    refine ⟨a, vs, e1, ?_, RDs.up hF e h2⟩
    rcases h1 with ⟨n, r⟩ | h1
    · refine .inl ⟨fun hf => ?_, r⟩
      obtain ⟨ws, hw⟩ := hF a hf n
      rcases r with r | ⟨o, r⟩ <;> rw [hw] at r <;> cases r
    · exact .inr h1
theorem RDs.up (hF : ∀ a, F a → ¬ F1 a → ∃ vs, H a = some (.lst vs)) : ∀ {xs : List PyData} {vs : List V}, nlAll xs = true → RDs K F1 H xs vs → RDs K F H xs vs
  | [], _, _, h => by unfold RDs at h ⊢; exact h
  | x :: xs, _, e, h => by
    unfold RDs at h ⊢
    simp only [nlAll, Bool.and_eq_true] at e
    obtain ⟨v, r, e1, h1, h2⟩ := h
    exact ⟨v, r, e1, RD.up hF e.1 h1, RDs.up hF e.2 h2⟩
end
theorem RO.up (hF : ∀ a, F a → ¬ F1 a → ∃ vs, H a = some (.lst vs)) {p : Addr × Option Addr} {o : PO} (e : nlO o = true) (h : RO K F1 H p o) : RO K F H p o := by
  cases o with
  | lst xs => obtain ⟨e1, vs, h1, h2⟩ := h; exact ⟨e1, vs, h1, RDs.up hF e h2⟩
  | src _ _ _ _ => exact h

theorem ads_cons (r : Addr × Option Addr) (φ : Phi) : ads (r :: φ) = ads [r] ++ ads φ := by simp [ads]
theorem ads_one : ∀ {φ : Phi} {n : Nat} {p : Addr × Option Addr}, (ads φ).Nodup → φ[n]? = some p → (ads [p]).Nodup
  | [], _, _, _, h => by simp at h
  | r :: φ, n, p, nd, h => by
    rw [ads_cons, List.nodup_append] at nd
    cases n with
    | zero => simp at h; subst h; exact nd.1
    | succ n => simp at h; exact ads_one nd.2.1 h
theorem ads_mem : ∀ {φ : Phi} {n : Nat} {p : Addr × Option Addr}, φ[n]? = some p → ∀ a ∈ ads [p], a ∈ ads φ := fun {φ n p} hp a ha => by
  simp only [ads, List.flatMap_cons, List.flatMap_nil, List.append_nil] at ha
  exact List.mem_flatMap.mpr ⟨p, List.mem_of_getElem? hp, ha⟩
theorem ads_disj : ∀ {φ : Phi} {n m : Nat} {p q : Addr × Option Addr}, (ads φ).Nodup → φ[n]? = some p → φ[m]? = some q → m ≠ n → ∀ a ∈ ads [q], a ∉ ads [p]
  | [], _, _, _, _, _, h, _, _ => by simp at h
  | r :: φ, n, m, p, q, nd, h, h', hne => by
    rw [ads_cons, List.nodup_append] at nd
    obtain ⟨n1, n2, n3⟩ := nd
    cases n with
    | zero =>
      cases m with
      | zero => exact absurd rfl hne
      | succ m =>
        simp at h h'
        subst h
        exact fun a ha hb => n3 a hb a (ads_mem h' a ha) rfl
    | succ n =>
      cases m with
      | zero =>
        simp at h h'
        subst h'
        exact fun a ha hb => n3 a ha a (ads_mem h a hb) rfl
      | succ m =>
        simp at h h'
        exact ads_disj n2 h h' (by omega)
/-- where the lists stand that are handed by value -/
def snap (φ : Phi) (vs : List PV) (a : Addr) : Prop := ∃ m p, PV.r m ∈ vs ∧ φ[m]? = some p ∧ p.1 = a
theorem deref_r {m : Nat} {x : PyData} (h : deref S (.r m) = some x) : ∃ xs, S[m]? = some (.lst xs) ∧ x = .list xs := by
  unfold deref at h
  simp only at h
  split at h
  · rename_i xs hx
    simp only [Option.some.injEq] at h
    exact ⟨xs, hx, h.symm⟩
  · cases h
theorem rd_hand (hl : Rl K φ F S H) {G : Addr → Prop} {pv : PV} {v : V} {x : PyData} (r : RP K φ F H pv v) (e : deref S pv = some x) (hG : ∀ m p, pv = .r m → φ[m]? = some p → G p.1) : RD K (fun a => F a ∧ ¬ G a) H x v := by
  cases pv with
  | d y => simp only [Cr.deref, Option.some.injEq] at e; subst e; exact RD.less (fun _ h => h.1) r
  | r m =>
    obtain ⟨xs, e1, rfl⟩ := deref_r e
    obtain ⟨p, hp, rfl⟩ := r
    obtain ⟨p', ws, hp', _, hw, r2⟩ := hl.lst e1
    rw [hp] at hp'; cases hp'
    unfold RD
    exact ⟨p.1, ws, rfl, .inl ⟨fun h => h.2 (hG m p rfl hp), .inl hw⟩, RDs.less (fun _ h => h.1) r2⟩
theorem rps_hand (hl : Rl K φ F S H) {φ' : Phi} {G : Addr → Prop} : ∀ {pvs : List PV} {vs : List V} {xs : List PyData}, RPs K φ F H pvs vs → derefs S pvs = some xs → (∀ m p, PV.r m ∈ pvs → φ[m]? = some p → G p.1) → RPs K φ' (fun a => F a ∧ ¬ G a) H (xs.map PV.d) vs
  | [], _, xs, h, e, _ => by
    unfold RPs at h
    simp [Cr.derefs] at e
    subst e
    unfold RPs
    exact h
  | pv :: pvs, _, xs, h, e, hG => by
    unfold RPs at h
    obtain ⟨v, r, rfl, h1, h2⟩ := h
    unfold Cr.derefs at e
    obtain ⟨x, e1, e⟩ := Option.bind_eq_some_iff.mp e
    obtain ⟨ys, e2, rfl⟩ := Option.map_eq_some_iff.mp e
    rw [List.map_cons]
    unfold RPs
    exact ⟨v, r, rfl, rd_hand hl h1 e1 (fun m p e h => hG m p (by rw [e]; exact List.mem_cons_self) h), rps_hand hl h2 e2 fun m p hm h => hG m p (List.mem_cons_of_mem _ hm) h⟩
/-- with one handed by reference -/
theorem rps_hands (hl : Rl K φ F S H) {p : Addr × Option Addr} {j n : Nat} {G : Addr → Prop} (hp : φ[n]? = some p) : ∀ {k : Nat} {pvs : List PV} {vs : List V} {as : List PV}, RPs K φ F H pvs vs → hands S j n k pvs = some as →
    (∀ m q, PV.r m ∈ pvs → m ≠ n → φ[m]? = some q → G q.1) → RPs K [p] (fun a => F a ∧ ¬ G a) H as vs
  | _, [], _, as, h, e, _ => by
    unfold RPs at h
    simp [hands] at e
    subst e
    unfold RPs
    exact h
  | k, pv :: pvs, _, as, h, e, hG => by
    unfold RPs at h
    obtain ⟨v, r, rfl, h1, h2⟩ := h
    unfold hands at e
    obtain ⟨w, e1, e⟩ := Option.bind_eq_some_iff.mp e
    obtain ⟨ys, e2, rfl⟩ := Option.map_eq_some_iff.mp e
    unfold RPs
    refine ⟨v, r, rfl, ?_, rps_hands hl hp h2 e2 fun m q hm hn h => hG m q (List.mem_cons_of_mem _ hm) hn h⟩
    cases pv with
    | d x =>
      simp only at e1
      split at e1
      · cases e1
      · cases e1
        exact RD.less (fun _ h => h.1) h1
    | r m =>
      simp only at e1
      split at e1
      · rename_i hm
        subst hm
        split at e1
        · cases e1
          obtain ⟨q, hq, rfl⟩ := h1
          rw [hp] at hq; cases hq
          exact ⟨p, rfl, rfl⟩
        · cases e1
      · rename_i hm
        split at e1
        · cases e1
        · obtain ⟨x, e3, rfl⟩ := Option.map_eq_some_iff.mp e1
          exact rd_hand hl h1 e3 fun m' q e h => by cases e; exact hG m q List.mem_cons_self hm h
theorem hands_other {j n : Nat} : ∀ {k : Nat} {pvs as : List PV}, hands S j n k pvs = some as → ∀ i m, pvs[i]? = some (.r m) → m = n → k + i = j
  | _, [], _, _, i, m, e, _ => by simp at e
  | k, pv :: pvs, as, h, i, m, e, hm => by
    unfold hands at h
    obtain ⟨w, e1, h⟩ := Option.bind_eq_some_iff.mp h
    obtain ⟨ys, e2, _⟩ := Option.map_eq_some_iff.mp h
    cases i with
    | zero =>
      simp at e
      subst e
      simp only [hm, if_true] at e1
      split at e1
      · rename_i q; omega
      · cases e1
    | succ i =>
      simp at e
      have := hands_other e2 i m e hm
      omega
end

/-- a def's promise, by the oracle -/
def spC (K : Fg) (C : Orc) (f : Nat) : Sp := fun vs H Q _ => ∃ φ F S args r, Rl K φ F S H ∧ RPs K φ F H args vs ∧ C f args S = some r ∧
  ∀ H' v, Stp φ F H φ F H' → Rl K φ F r.2.2 H' → RD K F H' r.1 v → (r.2.1 = true → ∀ xs, r.1 = .list xs → NewL K φ F r.2.2 H H' xs v) → Q v H'
/-- the def f stands at the global name x and keeps its promise -/
structure FnAt (X : Cx) (C : Orc) (f : Nat) (x : Str) : Prop where
  gd : X.A.guards = some []
  ok : ∃ k addr fd ps, FnG X.prog X.w X.K X.mg X.base k addr fd ps (spC X.K C f) ∧ Room k X.A ∧ X.mg x = some (.ref addr) ∧ PySem.W.keepIn X.K (.ref addr) = true ∧ Binds X.K fd ps []

section
variable {X : Cx} {P : Prm} {pos : Pos}
theorem to_spC {f : Nat} {pvs : List PV} {vs : List V} {φ : Phi} {F : FS} {S S' : Store} {H : Hp} {x : PyData} {nw : Bool} {Q : VK} {E : XK} (hl : Rl X.K φ F S H) (hr : RPs X.K φ F H pvs vs) (e : callC P.C (P.refs f) f pvs S = some (x, nw, S'))
    (q : ∀ H' v, Stp φ F H φ F H' → Rl X.K φ F S' H' → RD X.K F H' x v → (nw = true → ∀ xs, x = .list xs → NewL X.K φ F S' H H' xs v) → Q v H') : spC X.K P.C f vs H Q E := by
  unfold callC at e
  cases hrf : P.refs f with
  | none =>
    rw [hrf] at e
    simp only at e
    obtain ⟨xs, e1, e⟩ := Option.bind_eq_some_iff.mp e
    obtain ⟨r, e2, e⟩ := Option.bind_eq_some_iff.mp e
    split at e
    · cases e
    rename_i hnl
    cases e
    refine ⟨[], fun a => F a ∧ ¬ snap φ pvs a, [], xs.map PV.d, r, ⟨rfl, by simp [ads], by simp [ads], fun a h => hl.dom a h.1, fun n o h => by simp at h⟩,
      rps_hand hl hr e1 fun m p hm hp => ⟨m, p, hm, hp, rfl⟩, e2, fun H' v st hl' rd nl => ?_⟩
    have st1 : Stp φ F H φ F H' := ⟨⟨[], by simp, by simp [ads]⟩, fun _ h => h, fun _ h n => absurd h n, fun a o _ h => st.keep a o (by simp [ads]) h, st.dom⟩
    have kept : ∀ a o, H a = some o → H' a = some o := fun a o h => st.keep a o (by simp [ads]) h
    have hl1 : Rl X.K φ F S H' := ⟨hl.len, hl.nd, hl.inF, fun a h => st.dom a (hl.dom a h), fun n o e => by
      obtain ⟨p, e1, ro⟩ := hl.obj n o e
      exact ⟨p, e1, ro.step st1 hl.inF (fun o h => kept _ o h) fun c _ o h => kept c o h⟩⟩
    have hsnap : ∀ a, F a → ¬ (F a ∧ ¬ snap φ pvs a) → ∃ ws, H' a = some (.lst ws) ∧ pvs.any isRef = true := fun a hf hn => by
      have hs : snap φ pvs a := Classical.byContradiction fun h => hn ⟨hf, h⟩
      obtain ⟨m, p, hm, hp, rfl⟩ := hs
      have hlst : ∃ xs, S[m]? = some (.lst xs) := by
        have : ∀ {l : List PV} {ys : List PyData}, derefs S l = some ys → PV.r m ∈ l → ∃ xs, S[m]? = some (.lst xs) := by
          intro l
          induction l with
          | nil => intro ys _ h; cases h
          | cons w l ih =>
            intro ys e h
            unfold Cr.derefs at e
            obtain ⟨x, e1, e⟩ := Option.bind_eq_some_iff.mp e
            obtain ⟨zs, e2, _⟩ := Option.map_eq_some_iff.mp e
            rcases List.mem_cons.mp h with rfl | h
            · obtain ⟨xs, h1, _⟩ := deref_r e1; exact ⟨xs, h1⟩
            · exact ih e2 h
        exact this e1 hm
      obtain ⟨xs, hx⟩ := hlst
      obtain ⟨p', ws, hp', _, hw, _⟩ := hl.lst hx
      rw [hp] at hp'; cases hp'
      exact ⟨ws, kept _ _ hw, List.any_eq_true.mpr ⟨.r m, hm, rfl⟩⟩
    have lift : ∀ {z : PyData} {u : V}, (pvs.any isRef = true → Cr.nl z = true) → RD X.K (fun a => F a ∧ ¬ snap φ pvs a) H' z u → RD X.K F H' z u := fun {z u} hz h => by
      by_cases ha : pvs.any isRef = true
      · exact RD.up (fun a h1 h2 => let ⟨ws, h3, _⟩ := hsnap a h1 h2; ⟨ws, h3⟩) (hz ha) h
      · exact RD.less (fun a hf => Classical.byContradiction fun hn => ha (hsnap a hf hn).choose_spec.2) h
    have hnl' : pvs.any isRef = true → Cr.nl r.1 = true := fun ha => by
      rw [ha] at hnl
      simpa using hnl
    refine q H' v st1 hl1 (lift hnl' rd) fun hn ys ey => ?_
    have hno : ¬ pvs.any isRef = true := fun ha => by
      have := hnl' ha
      rw [ey] at this
      simp [Cr.nl] at this
    have hF : ∀ a, F a → (F a ∧ ¬ snap φ pvs a) := fun a hf => Classical.byContradiction fun hn => hno (hsnap a hf hn).choose_spec.2
    obtain ⟨a, ws, rfl, h1, h2, h3, h4, h5⟩ := nl hn ys ey
    refine ⟨a, ws, rfl, h1, fun hf => hl.dom a hf h1, h3, ?_, RDs.less (fun b hb => hb.imp (hF b) id) h5⟩
    refine ⟨hl.len, hl.nd, fun b hb => .inl (hl.inF b hb), fun b hb => ?_, fun n o e => ?_⟩
    · rcases hb with hb | rfl
      · exact hl1.dom b hb
      · rw [h3]; simp
    · have st2 : Stp φ F H φ (fun b => F b ∨ b = a) H' := ⟨⟨[], by simp, by simp [ads]⟩, fun _ h => .inl h, fun b h n => by rcases h with h | rfl; exact absurd h n; exact h1, fun a o _ h => kept a o h, st.dom⟩
      obtain ⟨p, e1, ro⟩ := hl.obj n o e
      exact ⟨p, e1, ro.step st2 hl.inF (fun o h => kept _ o h) fun c _ o h => kept c o h⟩
  | some j =>
    rw [hrf] at e
    simp only at e
    cases hj : pvs[j]? with
    | none => simp [hj] at e
    | some w =>
      cases w with
      | d _ => simp [hj] at e
      | r n =>
        simp only [hj] at e
        cases ho : S[n]? with
        | none => simp [ho] at e
        | some o =>
          simp only [ho] at e
          obtain ⟨as, e1, e⟩ := Option.bind_eq_some_iff.mp e
          obtain ⟨r, e2, e⟩ := Option.bind_eq_some_iff.mp e
          obtain ⟨rx, rn, ro⟩ := r
          simp only at e
          match ro, e2, e with
          | [], e2, e => simp at e
          | _ :: _ :: _, e2, e => simp at e
          | [o'], e2, e =>
            simp only at e
            split at e
            · cases e
            rename_i hnl
            cases e
            have hnN : n < S.length := (List.getElem?_eq_some_iff.mp ho).1
            obtain ⟨p, hp, rop⟩ := hl.obj n o ho
            -- the others that are handed by value
            have oth : ∀ m, PV.r m ∈ pvs → m ≠ n → PV.r m ∈ pvs.eraseIdx j := fun m hm hne => by
              rw [List.mem_eraseIdx_iff_getElem?]
              obtain ⟨i, hi⟩ := List.mem_iff_getElem?.mp hm
              refine ⟨i, fun q => ?_, hi⟩
              subst q
              rw [hj] at hi
              exact hne (by cases hi; rfl)
            have oth2 : ∀ m, PV.r m ∈ pvs.eraseIdx j → PV.r m ∈ pvs ∧ m ≠ n := fun m hm => by
              rw [List.mem_eraseIdx_iff_getElem?] at hm
              obtain ⟨i, hi, e⟩ := hm
              refine ⟨List.mem_of_getElem? e, fun q => hi ?_⟩
              have := hands_other e1 i m e q
              omega
            let G : Addr → Prop := fun a => snap φ (pvs.eraseIdx j) a
            have adsp : ∀ a ∈ ads [p], a ∈ ads φ := fun a ha => by
              simp only [ads, List.flatMap_cons, List.flatMap_nil, List.append_nil] at ha
              exact List.mem_flatMap.mpr ⟨p, List.mem_of_getElem? hp, ha⟩
            have notG : ∀ a ∈ ads [p], ¬ G a := fun a ha ⟨m, s, hm, hs, e⟩ => by
              obtain ⟨_, hne⟩ := oth2 m hm
              obtain ⟨z1, z2⟩ := ads_ne hl.nd hs hp (Ne.symm hne)
              simp only [ads, List.flatMap_cons, List.flatMap_nil, List.append_nil, List.mem_cons, Option.mem_toList] at ha
              rcases ha with rfl | ha
              · exact z1 e.symm
              · exact z2 a ha e.symm
            have hsub : Rl X.K [p] (fun a => F a ∧ ¬ G a) [o] H := by
              refine ⟨rfl, ?_, fun a ha => ⟨hl.inF a (adsp a ha), notG a ha⟩, fun a h => hl.dom a h.1, fun m u e => ?_⟩
              · exact ads_one hl.nd hp
              · cases m with
                | zero => simp at e; subst e; exact ⟨p, rfl, rop.less fun _ h => h.1⟩
                | succ m => simp at e
            refine ⟨[p], fun a => F a ∧ ¬ G a, [o], as, _, hsub, rps_hands hl hp hr e1 fun m s hm hne hs => ⟨m, s, oth m hm hne, hs, rfl⟩, e2, fun H' v st hl' rd nl => ?_⟩
            have kept : ∀ a, a ∉ ads [p] → ∀ o, H a = some o → H' a = some o := fun a ha o h => st.keep a o ha h
            have st1 : Stp φ F H φ F H' := ⟨⟨[], by simp, by simp [ads]⟩, fun _ h => h, fun _ h n => absurd h n, fun a o hn h => kept a (fun ha => hn (ads_mem hp a ha)) o h, st.dom⟩
            have hsnap : ∀ a, F a → ¬ (F a ∧ ¬ G a) → ∃ ws, H' a = some (.lst ws) ∧ (pvs.eraseIdx j).any isRef = true := fun a hf hn => by
              have hs : G a := Classical.byContradiction fun h => hn ⟨hf, h⟩
              obtain ⟨m, s, hm, hs, rfl⟩ := hs
              obtain ⟨hm1, hne⟩ := oth2 m hm
              have hlst : ∃ xs, S[m]? = some (.lst xs) := by
                have : ∀ {l as : List PV} {k : Nat}, hands S j n k l = some as → PV.r m ∈ l → ∃ xs, S[m]? = some (.lst xs) := by
                  intro l
                  induction l with
                  | nil => intro as k _ h; cases h
                  | cons w l ih =>
                    intro as k e h
                    unfold hands at e
                    obtain ⟨x, e1, e⟩ := Option.bind_eq_some_iff.mp e
                    obtain ⟨zs, e2, _⟩ := Option.map_eq_some_iff.mp e
                    rcases List.mem_cons.mp h with rfl | h
                    · simp only [hne, if_false] at e1
                      split at e1
                      · cases e1
                      · obtain ⟨y, e3, _⟩ := Option.map_eq_some_iff.mp e1
                        obtain ⟨xs, h1, _⟩ := deref_r e3
                        exact ⟨xs, h1⟩
                    · exact ih e2 h
                exact this e1 hm1
              obtain ⟨xs, hx⟩ := hlst
              obtain ⟨s', ws, hs', _, hw, _⟩ := hl.lst hx
              rw [hs] at hs'; cases hs'
              refine ⟨ws, kept _ (fun ha => ads_disj hl.nd hp hs hne s.1 (by simp [ads]) ha) _ hw, List.any_eq_true.mpr ⟨.r m, hm, rfl⟩⟩
            have hnl' : (pvs.eraseIdx j).any isRef = true → Cr.nl x = true ∧ nlO o' = true := fun ha => by
              rw [ha] at hnl
              simpa using hnl
            have hF : ¬ (pvs.eraseIdx j).any isRef = true → ∀ a, F a → (F a ∧ ¬ G a) := fun hno a hf => Classical.byContradiction fun hn => hno (hsnap a hf hn).choose_spec.2
            have hup : ∀ a, F a → ¬ (F a ∧ ¬ G a) → ∃ ws, H' a = some (.lst ws) := fun a h1 h2 => let ⟨ws, h3, _⟩ := hsnap a h1 h2; ⟨ws, h3⟩
            obtain ⟨p0, hp0, ro'⟩ := hl'.obj 0 o' rfl
            simp at hp0
            subst hp0
            have roF : RO X.K F H' p o' := by
              by_cases ha : (pvs.eraseIdx j).any isRef = true
              · exact RO.up hup (hnl' ha).2 ro'
              · exact ro'.less (hF ha)
            -- the objects behind, under any marks that what stood ahead does not meet
            have objs : ∀ (F2 : FS), Stp φ F H φ F2 H' → RO X.K F2 H' p o' → ∀ (m : Nat) (u : Cr.PO), (S.set n o')[m]? = some u → ∃ q, φ[m]? = some q ∧ RO X.K F2 H' q u := fun F2 st2 ro2 m u e => by
              by_cases hm : m = n
              · subst hm
                rw [List.getElem?_set_self hnN] at e
                cases e
                exact ⟨p, hp, ro2⟩
              · rw [List.getElem?_set_ne (Ne.symm hm)] at e
                obtain ⟨s, e1, ro⟩ := hl.obj m u e
                have hd := ads_disj hl.nd hp e1 hm
                exact ⟨s, e1, ro.step st2 hl.inF (fun o h => kept _ (hd _ (by simp [ads])) o h) fun c hc o h => kept c (hd c (by simp [ads, hc])) o h⟩
            have hl1 : Rl X.K φ F (S.set n o') H' := ⟨by rw [List.length_set]; exact hl.len, hl.nd, hl.inF, fun a h => st.dom a (hl.dom a h), objs F st1 roF⟩
            have rdF : RD X.K F H' x v := by
              by_cases ha : (pvs.eraseIdx j).any isRef = true
              · exact RD.up hup (hnl' ha).1 rd
              · exact RD.less (hF ha) rd
            refine q H' v st1 hl1 rdF fun hn ys ey => ?_
            have hno : ¬ (pvs.eraseIdx j).any isRef = true := fun ha => by
              have := (hnl' ha).1
              rw [ey] at this
              simp [Cr.nl] at this
            obtain ⟨a, ws, rfl, h1, h2, h3, h4, h5⟩ := nl hn ys ey
            have st2 : Stp φ F H φ (fun b => F b ∨ b = a) H' := ⟨⟨[], by simp, by simp [ads]⟩, fun _ h => .inl h, fun b h n => by rcases h with h | rfl; exact absurd h n; exact h1, st1.keep, st.dom⟩
            obtain ⟨p1, hp1, ro1⟩ := h4.obj 0 o' rfl
            simp at hp1
            subst hp1
            refine ⟨a, ws, rfl, h1, fun hf => hl.dom a hf h1, h3, ⟨by rw [List.length_set]; exact hl.len, hl.nd, fun b hb => .inl (hl.inF b hb), fun b hb => ?_, objs _ st2 (ro1.less fun b hb => hb.imp (hF hno b) id)⟩, RDs.less (fun b hb => hb.imp (hF hno b) id) h5⟩
            rcases hb with hb | rfl
            · exact hl1.dom b hb
            · rw [h3]; simp
/-- f(e, ..) of an own def -/
theorem r_call {f : Nat} {x : Str} {e : Expr} {es : List Expr} {ces : List CE} {p : Pos} (hf : FnAt X P.C f x) (hg : Gl X x) (hdb : (x == ("__debug__" : Str)) = false) (hs : (e :: es).all nst = true) (ha : PA X (e :: es) (tP X.K P ces)) :
    PE X (.Call (.Name x p) (e :: es) [] pos) (tE X.K P (.call f ces)) := by
  obtain ⟨k, addr, fd, ps, ok, room, hm, hk, hb⟩ := hf.ok
  have hs1 : nst e = true := by rw [List.all_cons, Bool.and_eq_true] at hs; exact hs.1
  have hs2 : es.all nst = true := by rw [List.all_cons, Bool.and_eq_true] at hs; exact hs.2
  refine PE.imp (pe_callG ok hf.gd room hg hm hk hb ha hdb (nst_ok hs1 _ _) (nst_all hs2)) fun σ H Q h => ?_
  obtain ⟨φ, F, ρ, S, hl, hρ, pv, S', e, q⟩ := h
  rw [ev] at e
  obtain ⟨⟨ps, S1⟩, e1, e⟩ := Option.bind_eq_some_iff.mp e
  obtain ⟨⟨x, nw, S2⟩, e2, e⟩ := Option.map_eq_some_iff.mp e
  cases e
  refine ⟨φ, F, ρ, S, hl, hρ, ps, S1, e1, fun φ1 F1 H1 vs st1 hl1 r1 => ?_⟩
  show spC X.K P.C f (vs ++ []) H1 Q (fun _ _ _ => False)
  rw [List.append_nil]
  exact to_spC hl1 r1 e2 fun H' v st hl' rd _ => q φ1 F1 H' v (st1.trans st) hl' rd (fun e => nomatch e)
end
end Cr

/-! ## CrG0 -/
set_option Elab.async false
set_option linter.all false
set_option autoImplicit false
set_option maxRecDepth 100000
set_option maxHeartbeats 4000000
/-! CrG0: enumerate of a tuple. -/
namespace Cr
open PySem PySem.Spec L2
open AutoSeq1 (wpAny_loadPart')

theorem meets_enumT (l : Addr) (items : Array Value) (n : Nat) (dct : Option Addr) (sl : Array (Option Value)) :
    Meets (Builtin.«enumerate.__new__» ⟨[.type "enumerate", .ref l], []⟩) (fun _ R s => s.heap.get? l = some { cls := .type "tuple", dict := dct, data := .seq items n, slots := sl } ∧
      R (.ok (.ret (.ref (s.heap.push { cls := .type "tuple_iterator", data := .fields #[.ref l, .int 0 0] }).objs.size)))
        { s with heap := (s.heap.push { cls := .type "tuple_iterator", data := .fields #[.ref l, .int 0 0] }).push { cls := .type "enumerate", data := .fields #[.none, .bool false, .ref s.heap.objs.size, rawInt 0, .none, .none] } }) :=
  .of_wp fun prog w A R s h => by
    obtain ⟨hp, g, d, tk, os⟩ := s; obtain ⟨hl, h⟩ := h
    have hsub := sub_enumerate
    have hL : Heap.IsTuple (Shared.heap ⟨hp, g, d, tk, os⟩) l items := ⟨_, hl, rfl, n, rfl⟩
    wp_walk using wpAny_loadPart' hl
    refine wpAny_stack_any fun st => wpAny_pure ?_
    split
    · rename_i c _ _ _ _ _
      cases (c == Value.type "enumerate")
      · wp_walk using wpAny_loadPart' hl, wpAny_pyIter_tuple hL
        exact ⟨_, rfl, h⟩
      · wp_walk using wpAny_loadPart' hl, wpAny_pyIter_tuple hL
        exact ⟨_, rfl, h⟩
    · wp_walk using wpAny_loadPart' hl, wpAny_pyIter_tuple hL
      exact ⟨_, rfl, h⟩
section
variable {prog : Program} {w : World} {A : Around} {E : Value → Shared → Prop} {s : Shared}
theorem call_enumT {l : Addr} {items : Array Value} {Q : Value → Shared → Prop} (hL : s.heap.IsTuple l items)
    (h : ∀ h', IsEnum h' (s.heap.objs.size + 1) s.heap.objs.size 0 .none → h'.IsTupleIter s.heap.objs.size l 0 → h'.objs.size = s.heap.objs.size + 2 →
      (∀ b o, s.heap.get? b = some o → h'.get? b = some o) → Q (.ref (s.heap.objs.size + 1)) { s with heap := h' }) :
    wpAny (model prog w) A (call (.type "enumerate") [.ref l]) Q E s := by
  obtain ⟨⟨c, dct, dt, sl⟩, hl, hc, n, hd⟩ := hL
  replace hc : c = .type "tuple" := hc
  replace hd : dt = .seq items n := hd
  subst hc hd
  refine callType_new F.called_enumerate (by decide) (F.typeCall_enumerate_1 _) (F.newCall_enumerate_1 _) (fun obj => F.args_object_init_2 obj _) F.entry_enumerate_new
    (meets_enumT l items n dct sl) ⟨hl, ?_⟩
  have hz : (s.heap.push { cls := .type "tuple_iterator", data := .fields #[.ref l, .int 0 0] }).objs.size = s.heap.objs.size + 1 := Heap.size_push ..
  show _ ∧ _
  rw [hz]
  have he : IsEnum ((s.heap.push { cls := .type "tuple_iterator", data := .fields #[.ref l, .int 0 0] }).push
      { cls := .type "enumerate", data := .fields #[.none, .bool false, .ref s.heap.objs.size, rawInt 0, .none, .none] }) (s.heap.objs.size + 1) s.heap.objs.size 0 .none := by
    have := Heap.get?_push_size (s.heap.push { cls := .type "tuple_iterator", data := .fields #[.ref l, .int 0 0] })
      (o := { cls := .type "enumerate", data := .fields #[.none, .bool false, .ref s.heap.objs.size, rawInt 0, .none, .none] }) rfl
    rw [hz] at this; exact this
  refine ⟨⟨_, he, rfl⟩, h _ he ⟨_, Heap.get?_push_of_some _ (Heap.get?_push_size _ rfl), rfl, rfl⟩ (by rw [Heap.size_push, hz]) fun b o x => Heap.get?_push_of_some _ (Heap.get?_push_of_some _ x)⟩
end
/-- the tuple at a, each item in a new pair -/
def IteT (K : PySem.W.Frag) (a : Addr) : It :=
  ⟨fun i H => ∃ (xs : List V) (x : V), SqT K H a xs ∧ xs[i]? = some x, fun i H v H' => ∃ T x, v = .ref T ∧ H T = none ∧ H' = upd H T (.tup [.int (i : Nat), x]) ∧ ∀ xs, SqT K H a xs → xs[i]? = some x, fun i H => ∃ xs : List V, SqT K H a xs ∧ xs.length ≤ i⟩
theorem turn_enumT {P : Program} {w : World} {K : PySem.W.Frag} {elts : List Expr} {kk : Nat} {tpos : Pos} (a e it : Addr) (hai : a ≠ it) (hae : a ≠ e) :
    Turn P w K (.Tuple elts kk tpos) (IteT K a) [e, it] e (fun i h => (∃ old, IsEnum h e it ((i : Nat) : Int) old) ∧ h.IsTupleIter it a i ∧ e ≠ it) where
  mem := by simp
  obj := fun i h st b hb => by
    obtain ⟨⟨old, he⟩, ⟨o, ho, hc, hd⟩, _⟩ := st
    have e' : b = e ∨ b = it := by simpa using hb
    rcases e' with z | z
    · rw [z]; exact ⟨_, he, fun v q => nomatch q⟩
    · rw [z]; exact ⟨o, ho, fun v q => by rw [hd] at q; cases q⟩
  keep := fun i h h' st k => let ⟨⟨old, he⟩, hi, hne⟩ := st; ⟨⟨old, k e (by simp) _ he⟩, hi.at fun o q => k it (by simp) o q, hne⟩
  item := by
    intro X hP hw hK hc i pins s σ H E I hf st hg
    subst hP hw hK
    obtain ⟨⟨old, he⟩, hit, hne⟩ := st
    obtain ⟨xs, x, hq, hx⟩ := hg
    obtain ⟨its, rv, p, hz⟩ := I.tuple hq
    obtain ⟨u, hu, ru⟩ := rv.get hx
    have hel : e < s.heap.objs.size := Heap.lt_size he
    have hil : it < s.heap.objs.size := by obtain ⟨_, q, _⟩ := hit; exact Heap.lt_size q
    have hT0 : s.heap.IsTuple a its.toArray := p
    have hlt : i < its.toArray.size := by
      have := (List.getElem?_eq_some_iff.mp hu).1
      simpa using this
    refine wpAny_pyNext_enum_itemD (Draws.tuple (prog := X.prog) (w := X.w) (A := X.A.in1) (show X.A.in1.handled = none from I.ok.hd hc) it a hai its.toArray) he ⟨hit, hT0⟩ hlt hne (by simp; exact ⟨hne, Ne.symm hae⟩) fun x' h' tk px ho hst' hT hsz hk => ?_
    have hxu : x' = u := by
      have : its.toArray[i]? = some u := by simpa using hu
      rw [this] at px; cases px; rfl
    subst hxu
    refine ⟨_, rfl, wpAny_letOwnedTupleGo_enum (s := { s with heap := h', toks := tk + 1 }) ho fun h'' he' sb => ?_⟩
    have hT2 : h''.get? s.heap.objs.size = some { cls := .type "tuple", data := .seq #[.int i tk, x'] } := (sb.2 _ (Nat.ne_of_gt hel)).trans hT
    have new : ObjOk X.prog X.w (upd H s.heap.objs.size (.tup [.int (i : Nat), x])) h'' s.heap.objs.size (.tup [.int (i : Nat), x]) :=
      ⟨by show 2 ≤ sizeLine; decide, [.int i tk, x'], .cons ⟨_, rfl⟩ (.cons ru .nil), ⟨_, hT2, rfl, _, rfl⟩⟩
    have I1 : Inv X pins σ (upd H s.heap.objs.size (.tup [.int (i : Nat), x])) { s with heap := h'', toks := tk + 1 } :=
      I.turnedNew (ch := [e, it]) (fun b ob hb q => (sb.2 b (fun z => hb (by simp [z]))).trans (hk b ob (fun z => hb (by simp [z])) (fun z => hb (by simp [z])) q)) hf (Nat.le_refl _) new
    refine ⟨.ref s.heap.objs.size, _, I1, rfl, ⟨_, x, rfl, I.hok.fresh (Nat.le_refl _), rfl, fun ys hy => by rw [I.tuple_inj hy hq]; exact hx⟩, ⟨⟨x', ?_⟩, hst'.1.at fun o q => (sb.2 it (Ne.symm hne)).trans q, hne⟩, fun b hb => ?_⟩
    · have e1 : ((i + 1 : Nat) : Int) = (i : Int) + 1 := by omega
      rw [e1]; exact he'
    · have hb' : b < s.heap.objs.size := by
        have e' : b = e ∨ b = it := by simpa using hb
        rcases e' with z | z
        · rw [z]; exact hel
        · rw [z]; exact hil
      rw [upd_ne (Nat.ne_of_lt hb')]
      exact (hf b hb).1
  done := by
    intro X hP hw hK hc i pins s σ H E I hf st hg
    subst hP hw hK
    obtain ⟨⟨old, he⟩, hit, hne⟩ := st
    obtain ⟨xs, hq, hx⟩ := hg
    obtain ⟨its, rv, p, hz⟩ := I.tuple hq
    obtain ⟨f0, f1, f2, f3, f4, f5⟩ := hf it (by simp)
    have hl := rv.length
    have D : Draws X.prog X.w X.A.in1 it [it, a] i (fun i v => its.toArray[i]? = some v) (fun j h => i ≤ j ∧ h.IsTupleIter it a j ∧ h.IsTuple a its.toArray) :=
      ⟨fun _ _ st => let ⟨o, ho, _⟩ := st.2.1; ⟨o, ho⟩, fun _ _ _ st hk => ⟨st.1, st.2.1.at fun o e => hk it (by simp) o e, st.2.2.at fun o e => hk a (by simp) o e⟩,
        fun j s Q E hi st hQ => absurd hi (Nat.not_lt.mpr st.1),
        fun s Q E st hE => wpAny_nextOf_tuple_end (show X.A.in1.handled = none from I.ok.hd hc) st.2.1 st.2.2 (by simp; omega) hE⟩
    exact wpAny_pyNext_enum_endD D he ⟨Nat.le_refl _, hit, p⟩ fun h' eb => ⟨rfl, I.turned (t' := s.toks) (fun b o hb q => eb b o hb q) f0 f1 f3 f4 f5⟩
  self := fun A i s Q E st h => let ⟨⟨_, he⟩, _⟩ := st; wpAny_pyIter_enum he h
end Cr

/-! ## CrG1 -/
set_option Elab.async false
set_option linter.all false
set_option autoImplicit false
set_option maxRecDepth 100000
set_option maxHeartbeats 4000000
/-! CrG1: zip of three lists. -/
namespace Cr
open PySem PySem.Spec PyProof.Rows L2

/-- a list's iterator at i, among those that have i items or more -/
theorem drawsAt {prog : Program} {w : World} {A : Around} (hh : A.handled = none) (it l : Addr) (hne : l ≠ it) (items : Array Value) (i : Nat) :
    ∃ (n : Nat) (St : Nat → Heap → Prop), Draws prog w A it [it, l] n (fun i v => items[i]? = some v) St ∧ (∀ h : Heap, h.IsListIter it l i → h.IsList l items → St i h) ∧ i ≤ n ∧ (items.size ≤ i → n = i) ∧ (i < items.size → n = items.size) ∧
      ∀ (j : Nat) (h : Heap), St j h → h.IsListIter it l j := by
  by_cases c : i < items.size
  · exact ⟨items.size, _, Draws.list hh it l hne items, fun h a b => ⟨a, b⟩, by omega, fun h => by omega, fun _ => rfl, fun j h st => st.1⟩
  · exact ⟨i, fun j h => i ≤ j ∧ h.IsListIter it l j ∧ h.IsList l items, ⟨fun _ _ st => let ⟨o, ho, _⟩ := st.2.1; ⟨o, ho⟩, fun _ _ _ st hk => ⟨st.1, st.2.1.at fun o e => hk it (by simp) o e, st.2.2.at fun o e => hk l (by simp) o e⟩,
      fun j s Q E hi st hQ => absurd hi (Nat.not_lt.mpr st.1),
      fun s Q E st hE => wpAny_nextOf_list_end hh st.2.1 st.2.2 (by simp; omega) hE⟩, fun h a b => ⟨Nat.le_refl _, a, b⟩, Nat.le_refl _, fun _ => rfl, fun h => absurd h c, fun j h st => st.2.1⟩
/-- the lists at a, b and c as they stand at each turn, the items in new threes -/
def Itz3 (K : PySem.W.Frag) (a b c : Addr) : It :=
  ⟨fun i H => ∃ (xs ys zs : List V) (x y z : V), SqL K H a xs ∧ SqL K H b ys ∧ SqL K H c zs ∧ xs[i]? = some x ∧ ys[i]? = some y ∧ zs[i]? = some z,
    fun i H v H' => ∃ T x y z, v = .ref T ∧ H T = none ∧ H' = upd H T (.tup [x, y, z]) ∧ (∀ xs, SqL K H a xs → xs[i]? = some x) ∧ (∀ ys, SqL K H b ys → ys[i]? = some y) ∧ ∀ zs, SqL K H c zs → zs[i]? = some z,
    fun i H => ∃ xs ys zs : List V, SqL K H a xs ∧ SqL K H b ys ∧ SqL K H c zs ∧ (xs.length ≤ i ∨ ys.length ≤ i ∨ zs.length ≤ i)⟩
theorem turn_zip3 {P : Program} {w : World} {K : PySem.W.Frag} {elts : List Expr} {kk : Nat} {tpos : Pos} {a b c z TI TO i1 i2 i3 : Addr} (D : ZipSep3 z TI TO i1 i2 i3 [i1, a] [i2, b] [i3, c]) (na : a ≠ i1) (nb : b ≠ i2) (nc : c ≠ i3) :
    Turn P w K (.Tuple elts kk tpos) (Itz3 K a b c) [z, TI, TO, i1, i2, i3] z (fun i h => IsZip h z TI TO .none ∧ IsTupOf3 h TI (.ref i1) (.ref i2) (.ref i3) ∧ (∃ x y u, IsTupOf3 h TO x y u) ∧ h.IsListIter i1 a i ∧ h.IsListIter i2 b i ∧ h.IsListIter i3 c i) where
  mem := by simp
  obj := fun i h st d hd => by
    obtain ⟨hz, hTI, ⟨x, y, u, hTO⟩, ⟨o1, e1, _, d1⟩, ⟨o2, e2, _, d2⟩, ⟨o3, e3, _, d3⟩⟩ := st
    have e' : d = z ∨ d = TI ∨ d = TO ∨ d = i1 ∨ d = i2 ∨ d = i3 := by simpa using hd
    rcases e' with q | q | q | q | q | q
    · rw [q]; exact ⟨_, hz, fun v q => nomatch q⟩
    · rw [q]; exact ⟨_, hTI, fun v q => nomatch q⟩
    · rw [q]; exact ⟨_, hTO, fun v q => nomatch q⟩
    · rw [q]; exact ⟨o1, e1, fun v q => by rw [d1] at q; cases q⟩
    · rw [q]; exact ⟨o2, e2, fun v q => by rw [d2] at q; cases q⟩
    · rw [q]; exact ⟨o3, e3, fun v q => by rw [d3] at q; cases q⟩
  keep := fun i h h' st k => by
    obtain ⟨hz, hTI, ⟨x, y, u, hTO⟩, h1, h2, h3⟩ := st
    exact ⟨k z (by simp) _ hz, k TI (by simp) _ hTI, ⟨x, y, u, k TO (by simp) _ hTO⟩, h1.at fun o q => k i1 (by simp) o q, h2.at fun o q => k i2 (by simp) o q, h3.at fun o q => k i3 (by simp) o q⟩
  item := by
    intro X hP hw hK hc i pins s σ H E I hf st hg
    subst hP hw hK
    obtain ⟨hz, hTI, ⟨x0, y0, u0, hTO⟩, h1, h2, h3⟩ := st
    obtain ⟨xs, ys, zs, x, y, u, hqx, hqy, hqz, hx, hy, hu⟩ := hg
    obtain ⟨its, rv, p, _⟩ := I.list hqx
    obtain ⟨its2, rv2, p2, _⟩ := I.list hqy
    obtain ⟨its3, rv3, p3, _⟩ := I.list hqz
    obtain ⟨w1, hw1, rw1⟩ := rv.get hx
    obtain ⟨w2, hw2, rw2⟩ := rv2.get hy
    obtain ⟨w3, hw3, rw3⟩ := rv3.get hu
    have hzl : z < s.heap.objs.size := Heap.lt_size hz
    have hh : X.A.in1.handled = none := I.ok.hd hc
    have l1 : i < its.toArray.size := by have := (List.getElem?_eq_some_iff.mp hw1).1; simpa using this
    have l2 : i < its2.toArray.size := by have := (List.getElem?_eq_some_iff.mp hw2).1; simpa using this
    have l3 : i < its3.toArray.size := by have := (List.getElem?_eq_some_iff.mp hw3).1; simpa using this
    obtain ⟨n1, S1, D1, b1, -, -, c1, g1⟩ := drawsAt (prog := X.prog) (w := X.w) hh i1 a na its.toArray i
    obtain ⟨n2, S2, D2, b2, -, -, c2, g2⟩ := drawsAt (prog := X.prog) (w := X.w) hh i2 b nb its2.toArray i
    obtain ⟨n3, S3, D3, b3, -, -, c3, g3⟩ := drawsAt (prog := X.prog) (w := X.w) hh i3 c nc its3.toArray i
    refine wpAny_pyNext_zipD3_item D D1 D2 D3 hz hTI hTO (b1 _ h1 p.isList) (b2 _ h2 p2.isList) (b3 _ h3 p3.isList) (by rw [c1 l1]; exact l1) (by rw [c2 l2]; exact l2) (by rw [c3 l3]; exact l3) fun x1 x2 x3 h' tk px1 px2 px3 z' TO' s1' s2' s3' hT hsz hk => ?_
    have q1 : x1 = w1 := by
      have : its.toArray[i]? = some w1 := by simpa using hw1
      rw [this] at px1; cases px1; rfl
    have q2 : x2 = w2 := by
      have : its2.toArray[i]? = some w2 := by simpa using hw2
      rw [this] at px2; cases px2; rfl
    have q3 : x3 = w3 := by
      have : its3.toArray[i]? = some w3 := by simpa using hw3
      rw [this] at px3; cases px3; rfl
    subst q1 q2 q3
    refine ⟨_, rfl, wpAny_letOwnedTupleGo_zip (s := { s with heap := h', toks := tk }) z' fun h'' z'' sb => ?_⟩
    have hT2 : h''.get? s.heap.objs.size = some { cls := .type "tuple", data := .seq #[x1, x2, x3] } := (sb.2 _ (Nat.ne_of_gt hzl)).trans hT
    have new : ObjOk X.prog X.w (upd H s.heap.objs.size (.tup [x, y, u])) h'' s.heap.objs.size (.tup [x, y, u]) :=
      ⟨by show 3 ≤ sizeLine; decide, [x1, x2, x3], .cons rw1 (.cons rw2 (.cons rw3 .nil)), ⟨_, hT2, rfl, _, rfl⟩⟩
    have I1 : Inv X pins σ (upd H s.heap.objs.size (.tup [x, y, u])) { s with heap := h'', toks := tk } :=
      I.turnedNew (t' := tk) (ch := [z, TI, TO, i1, i2, i3]) (fun d o hb q => (sb.2 d (fun q' => hb (by simp [q']))).trans (hk d o (fun q' => hb (by simp [q'])) (fun q' => hb (by simp [q'])) (fun q' => hb (by simp [q'])) (fun q' => hb (by simp [q'])) (fun q' => hb (by simp [q'])) q)) hf (Nat.le_refl _) new
    have z1 : i1 ≠ z := fun q => D.zf1 (by rw [← q]; simp)
    have z2 : i2 ≠ z := fun q => D.zf2 (by rw [← q]; simp)
    have z3 : i3 ≠ z := fun q => D.zf3 (by rw [← q]; simp)
    refine ⟨.ref s.heap.objs.size, _, I1, rfl, ⟨_, x, y, u, rfl, I.hok.fresh (Nat.le_refl _), rfl, fun l hl => by rw [I.list_inj hl hqx]; exact hx, fun l hl => by rw [I.list_inj hl hqy]; exact hy, fun l hl => by rw [I.list_inj hl hqz]; exact hu⟩, ⟨z'', ?_, ⟨x1, x2, x3, ?_⟩, ?_, ?_, ?_⟩, fun d hdm => ?_⟩
    · exact (sb.2 _ D.TIz).trans (hk _ _ D.TIz D.TITO D.TIi1 D.TIi2 D.TIi3 hTI)
    · exact (sb.2 _ D.TOz).trans TO'
    · exact (g1 _ _ s1').at fun o q => (sb.2 _ z1).trans q
    · exact (g2 _ _ s2').at fun o q => (sb.2 _ z2).trans q
    · exact (g3 _ _ s3').at fun o q => (sb.2 _ z3).trans q
    · have hlt : d < s.heap.objs.size := by
        have e' : d = z ∨ d = TI ∨ d = TO ∨ d = i1 ∨ d = i2 ∨ d = i3 := by simpa using hdm
        rcases e' with q | q | q | q | q | q
        · rw [q]; exact hzl
        · rw [q]; exact Heap.lt_size hTI
        · rw [q]; exact Heap.lt_size hTO
        · rw [q]; obtain ⟨_, e1, _⟩ := h1; exact Heap.lt_size e1
        · rw [q]; obtain ⟨_, e2, _⟩ := h2; exact Heap.lt_size e2
        · rw [q]; obtain ⟨_, e3, _⟩ := h3; exact Heap.lt_size e3
      rw [upd_ne (Nat.ne_of_lt hlt)]
      exact (hf d hdm).1
  done := by
    intro X hP hw hK hc i pins s σ H E I hf st hg
    subst hP hw hK
    obtain ⟨hz, hTI, ⟨x0, y0, u0, hTO⟩, h1, h2, h3⟩ := st
    obtain ⟨xs, ys, zs, hqx, hqy, hqz, hend⟩ := hg
    obtain ⟨its, rv, p, _⟩ := I.list hqx
    obtain ⟨its2, rv2, p2, _⟩ := I.list hqy
    obtain ⟨its3, rv3, p3, _⟩ := I.list hqz
    have l1 := rv.length
    have l2 := rv2.length
    have l3 := rv3.length
    have hh : X.A.in1.handled = none := I.ok.hd hc
    obtain ⟨n1, S1, D1, b1, c1, d1, -, -⟩ := drawsAt (prog := X.prog) (w := X.w) hh i1 a na its.toArray i
    obtain ⟨n2, S2, D2, b2, c2, d2, -, -⟩ := drawsAt (prog := X.prog) (w := X.w) hh i2 b nb its2.toArray i
    obtain ⟨n3, S3, D3, b3, c3, d3, -, -⟩ := drawsAt (prog := X.prog) (w := X.w) hh i3 c nc its3.toArray i
    refine wpAny_pyNext_zipD3_end D D1 D2 D3 hz hTI hTO (b1 _ h1 p.isList) (b2 _ h2 p2.isList) (b3 _ h3 p3.isList) c1 c2 c3 ?_ fun h' tk hk => ⟨rfl, I.turnedL (t' := tk) (ch := [z, TI, TO, i1, i2, i3]) (fun d o hb q =>
      hk d o (fun q' => hb (by simp [q'])) (fun q' => hb (by simp [q'])) (fun q' => hb (by simp [q'])) (fun q' => hb (by simp [q'])) (fun q' => hb (by simp [q'])) q) hf⟩
    rcases hend with q | q | q
    · exact .inl (d1 (by simp; omega)).symm
    · exact .inr (.inl (d2 (by simp; omega)).symm)
    · exact .inr (.inr (d3 (by simp; omega)).symm)
  self := fun A i s Q E st h => wpAny_pyIter_zip st.1 h
def iZip3 (K : PySem.W.Frag) (ta : TA) : TI := fun σ H R => ta σ H fun vs H1 => ∃ a b c xs ys zs, vs = [.ref a, .ref b, .ref c] ∧ SqL K H1 a xs ∧ SqL K H1 b ys ∧ SqL K H1 c zs ∧ R (Itz3 K a b c) H1
theorem pi_zip3 {X : Cx} {e : Expr} {es : List Expr} {ta : TA} {p pos tpos : Pos} {elts : List Expr} {kk : Nat} (hg : Gl X "zip") (hm : X.mg "zip" = none) (ha : PA X (e :: es) ta)
    (hs : starEach (e :: es) X.env = (false, eval e X.env) :: starEach es X.env) (hpl : (backTo pos (starEach es X.env)).any (·.1) = false) :
    PI X (.Tuple elts kk tpos) (.Call (.Name "zip" p) (e :: es) [] pos) (iZip3 X.K ta) := by
  refine ⟨fun pins s σ H R I h => ?_⟩
  refine Call_ (ld_blt I hg hm PyProof.Rows.boot_zip (PyProof.Rows.callWith_type1 (thn (ha.run pos pins s σ H _ I h) fun us s1 ⟨vs, H1, I1, r1, q1⟩ => ?_) hs hpl))
  obtain ⟨a, b, c, xs, ys, zs, ex, hqx, hqy, hqz, q⟩ := q1
  subst ex
  cases r1 with
  | cons r rr =>
    cases rr with
    | cons r' rr =>
      cases rr with
      | cons r'' rr =>
        cases rr
        cases r
        cases r'
        cases r''
        obtain ⟨its, rv, p1, _⟩ := I1.list hqx
        obtain ⟨its2, rv2, p2, _⟩ := I1.list hqy
        obtain ⟨its3, rv3, p3, _⟩ := I1.list hqz
        have la : a < s1.heap.objs.size := p1.lt
        have lb : b < s1.heap.objs.size := p2.lt
        have lc : c < s1.heap.objs.size := p3.lt
        refine zip_begins3 (begins_list a its.toArray) (begins_list b its2.toArray) (begins_list c its3.toArray) p1.isList p2.isList p3.isList fun h' hz hTI hTO g1 g2 g3 hsz hk => wpAny_pyIter_zip hz ?_
        have I2 : Inv X pins σ H1 { s1 with heap := h' } := I1.kept (t' := s1.toks) hk
        have sep := zip_sep3 (N := s1.heap.objs.size) (fp1 := [a]) (fp2 := [b]) (fp3 := [c]) (fun d hd => by rw [List.mem_singleton.mp hd]; exact la) (fun d hd => by rw [List.mem_singleton.mp hd]; exact lb) (fun d hd => by rw [List.mem_singleton.mp hd]; exact lc)
        refine ⟨s1.heap.objs.size + 5, [s1.heap.objs.size + 5, s1.heap.objs.size + 3, s1.heap.objs.size + 4, s1.heap.objs.size, s1.heap.objs.size + 1, s1.heap.objs.size + 2], _, _, H1, rfl, I2,
          turn_zip3 sep (Nat.ne_of_lt la) (Nat.ne_of_lt (Nat.lt_succ_of_lt lb)) (Nat.ne_of_lt (Nat.lt_succ_of_lt (Nat.lt_succ_of_lt lc))), ⟨hz, hTI, ⟨_, _, _, hTO⟩, ⟨_, g1, rfl, rfl⟩, ⟨_, g2, rfl, rfl⟩, ⟨_, g3, rfl, rfl⟩⟩, fun d hdm => ?_, q⟩
        have e' : d = s1.heap.objs.size + 5 ∨ d = s1.heap.objs.size + 3 ∨ d = s1.heap.objs.size + 4 ∨ d = s1.heap.objs.size ∨ d = s1.heap.objs.size + 1 ∨ d = s1.heap.objs.size + 2 := by simpa using hdm
        have hle : s1.heap.objs.size ≤ d := by
          rcases e' with z | z | z | z | z | z
          · rw [z]; exact Nat.le_add_right _ _
          · rw [z]; exact Nat.le_add_right _ _
          · rw [z]; exact Nat.le_add_right _ _
          · rw [z]; exact Nat.le_refl _
          · rw [z]; exact Nat.le_add_right _ _
          · rw [z]; exact Nat.le_add_right _ _
        exact I1.fpOk hle (I1.hok.fresh hle)
end Cr

/-! ## CrG -/
set_option Elab.async false
set_option linter.all false
set_option autoImplicit false
set_option maxRecDepth 100000
set_option maxHeartbeats 4000000
/-! CrG: iterables, targets, comprehensions. -/
namespace Cr
open PySem PySem.Spec L2

/-! ### iterables -/
def iEnumA (K : Fg) (ta : TA) : TI := fun σ H R => ta σ H fun vs H1 => ∃ a xs, vs = [.ref a] ∧ ((SqL K H1 a xs ∧ R (Ite K a) H1) ∨ (SqT K H1 a xs ∧ R (IteT K a) H1))
theorem pi_enumA {X : Cx} {e : Expr} {ta : TA} {p pos tpos : Pos} {elts : List Expr} {kk : Nat} (hg : Gl X "enumerate") (hm : X.mg "enumerate" = none) (ha : PA X [e] ta) (hs : starEach [e] X.env = [(false, eval e X.env)]) :
    PI X (.Tuple elts kk tpos) (.Call (.Name "enumerate" p) [e] [] pos) (iEnumA X.K ta) := by
  refine ⟨fun pins s σ H R I h => ?_⟩
  refine PyProof.Rows.Call_ (ld_blt I hg hm PyProof.Rows.boot_enumerate (PyProof.Rows.callWith_type1 (thn (ha.run pos pins s σ H _ I h) fun us s1 ⟨vs, H1, I1, r1, q1⟩ => ?_) hs rfl))
  obtain ⟨a, xs, ex, q1⟩ := q1
  subst ex
  cases r1 with
  | cons r rr =>
    cases rr
    cases r
    have fp2 : ∀ b ∈ [s1.heap.objs.size + 1, s1.heap.objs.size], FpOk X pins H1 b := fun b hb => by
      have e' : b = s1.heap.objs.size + 1 ∨ b = s1.heap.objs.size := by simpa using hb
      have hle : s1.heap.objs.size ≤ b := by
        rcases e' with z | z
        · rw [z]; exact Nat.le_add_right _ _
        · rw [z]; exact Nat.le_refl _
      exact I1.fpOk hle (I1.hok.fresh hle)
    rcases q1 with ⟨hq, q⟩ | ⟨hq, q⟩
    · obtain ⟨its, rv, p', hz⟩ := I1.list hq
      refine call_enumerate_list p'.isList fun h' he hit hsz hk => wpAny_pyIter_enum he ?_
      have I2 : Inv X pins σ H1 { s1 with heap := h' } := I1.kept (t' := s1.toks) hk
      exact ⟨s1.heap.objs.size + 1, [s1.heap.objs.size + 1, s1.heap.objs.size], _, _, H1, rfl, I2, turn_enum a (s1.heap.objs.size + 1) s1.heap.objs.size, ⟨⟨.none, he⟩, hit, Nat.succ_ne_self _⟩, fp2, q⟩
    · obtain ⟨its, rv, p', hz⟩ := I1.tuple hq
      have hlt : a < s1.heap.objs.size := by
        obtain ⟨o, ho, _⟩ := id p'
        exact Heap.lt_size ho
      refine call_enumT (show s1.heap.IsTuple a its.toArray from p') fun h' he hit hsz hk => wpAny_pyIter_enum he ?_
      have I2 : Inv X pins σ H1 { s1 with heap := h' } := I1.kept (t' := s1.toks) hk
      exact ⟨s1.heap.objs.size + 1, [s1.heap.objs.size + 1, s1.heap.objs.size], _, _, H1, rfl, I2, turn_enumT a (s1.heap.objs.size + 1) s1.heap.objs.size (Nat.ne_of_lt hlt) (Nat.ne_of_lt (Nat.lt_succ_of_lt hlt)), ⟨⟨.none, he⟩, hit, Nat.succ_ne_self _⟩, fp2, q⟩

/-- J walks xs so long as g stands, from any state behind (φ, F, H) -/
def Iof (K : Fg) (J : It) (xs : List PyData) (g : Store → Prop) (φ : Phi) (F : FS) (H : Hp) : Prop :=
  ∀ φ' F' S' H', Stp φ F H φ' F' H' → Rl K φ' F' S' H' → g S' →
    (∀ (i : Nat) x, xs[i]? = some x → J.go i H' ∧ ∀ v H'', J.yld i H' v H'' → Stp φ' F' H' φ' F' H'' ∧ Rl K φ' F' S' H'' ∧ RD K F' H'' x v) ∧ ∀ i : Nat, xs.length ≤ i → J.stop i H'
def tI (K : Fg) (P : Prm) (c : CE) : TI := fun σ H R => ∃ φ F ρ S, Rl K φ F S H ∧ Re K φ F H ρ σ ∧ ∃ xs g S', evi P c ρ S = some ((xs, g), S') ∧
  ∀ J φ' F' H', Stp φ F H φ' F' H' → Rl K φ' F' S' H' → Iof K J xs g φ' F' H' → R J H'
theorem PI.imp {X : Cx} {tg e : Expr} {t t' : TI} (h : PI X tg e t) (i : ∀ σ H Q, t' σ H Q → t σ H Q) : PI X tg e t' := ⟨fun pins s σ H Q I q => h.run pins s σ H Q I (i σ H Q q)⟩

section
variable {K : Fg} {φ φ' : Phi} {F F' : FS} {H H' : Hp} {S S' : Store}
theorem still_deref {pv : PV} {x : PyData} {xs : List PyData} (e : deref S pv = some x) (ei : Cr.items x = some xs) (h : still pv xs S') : deref S' pv = some x := by
  cases pv with
  | d y => exact e
  | r n =>
    have h : S'[n]? = some (.lst xs) := h
    obtain ⟨ys, _, rfl⟩ := deref_r e
    simp [Cr.items] at ei
    subst ei
    simp [Cr.deref, h]
/-- the value that is walked, in a later state -/
theorem walked {pv : PV} {x : PyData} {xs : List PyData} {v : V} (hl : Rl K φ F S H) (r : RP K φ F H pv v) (e : deref S pv = some x) (ei : Cr.items x = some xs) (st : Stp φ F H φ' F' H') (hl' : Rl K φ' F' S' H') (g : still pv xs S') : VD K F' H' x v :=
  VD.deref hl' (r.step st hl) (still_deref e ei g)
theorem iof_list {pv : PV} {xs : List PyData} {a : Addr} (hl : Rl K φ F S H) (r : RP K φ F H pv (.ref a)) (e : deref S pv = some (.list xs)) : Iof K (Itl K a) xs (still pv xs) φ F H := by
  intro φ' F' S' H' st hl' g
  obtain ⟨b, vs, eb, h1, h2⟩ := walked hl r e rfl st hl' g
  cases eb
  refine ⟨fun i x hx => ?_, fun i hi => ⟨vs, h1, by rw [← h2.length]; exact hi⟩⟩
  obtain ⟨w, ew, rw⟩ := h2.get hx
  refine ⟨⟨vs, w, h1, ew⟩, fun v H'' y => ?_⟩
  obtain ⟨rfl, y⟩ := y
  have := y vs h1
  rw [ew] at this
  cases this
  exact ⟨Stp.refl, hl', rw⟩
theorem iof_tup {pv : PV} {xs : List PyData} {a : Addr} (hl : Rl K φ F S H) (r : RP K φ F H pv (.ref a)) (e : deref S pv = some (.tuple xs)) : Iof K (Itt K a) xs (still pv xs) φ F H := by
  intro φ' F' S' H' st hl' g
  obtain ⟨b, vs, eb, h1, h2⟩ := RD.tup (walked hl r e rfl st hl' g)
  cases eb
  refine ⟨fun i x hx => ?_, fun i hi => ⟨vs, h1, by rw [← h2.length]; exact hi⟩⟩
  obtain ⟨w, ew, rw⟩ := h2.get hx
  refine ⟨⟨vs, w, h1, ew⟩, fun v H'' y => ?_⟩
  obtain ⟨rfl, y⟩ := y
  have := y vs h1
  rw [ew] at this
  cases this
  exact ⟨Stp.refl, hl', rw⟩
theorem enumL_get : ∀ {xs : List PyData} {k i : Nat} {x : PyData}, (enumL k xs)[i]? = some x → ∃ y, xs[i]? = some y ∧ x = .tuple [.int ((k + i : Nat) : Int), y]
  | [], k, i, x, h => by simp [enumL] at h
  | y :: xs, k, 0, x, h => by simp [enumL] at h; subst h; exact ⟨y, rfl, by simp⟩
  | y :: xs, k, i + 1, x, h => by
    simp only [enumL, List.getElem?_cons_succ] at h
    obtain ⟨z, e, rfl⟩ := enumL_get h
    exact ⟨z, by simpa using e, by rw [Nat.add_right_comm]; rfl⟩
theorem enumL_length : ∀ (xs : List PyData) (k : Nat), (enumL k xs).length = xs.length
  | [], _ => rfl
  | _ :: xs, k => by simp [enumL, enumL_length xs]
theorem rd_pair {p : Addr} {x y : PyData} {v w : V} (hl : Rl K φ F S H) (hp : H p = none) (h1 : RD K F H x v) (h2 : RD K F H y w) : Stp φ F H φ F (upd H p (.tup [v, w])) ∧ Rl K φ F S (upd H p (.tup [v, w])) ∧ RD K F (upd H p (.tup [v, w])) (.tuple [x, y]) (.ref p) :=
  ⟨Stp.fresh hp, hl.fresh hp, RD.tupNew hl hp (.cons h1 (.cons h2 .nil))⟩
theorem iof_enumL {pv : PV} {xs : List PyData} {a : Addr} (hl : Rl K φ F S H) (r : RP K φ F H pv (.ref a)) (e : deref S pv = some (.list xs)) : Iof K (Ite K a) (enumL 0 xs) (still pv xs) φ F H := by
  intro φ' F' S' H' st hl' g
  obtain ⟨b, vs, eb, h1, h2⟩ := walked hl r e rfl st hl' g
  cases eb
  refine ⟨fun i x hx => ?_, fun i hi => ⟨vs, h1, by rw [← h2.length, ← enumL_length xs 0]; exact hi⟩⟩
  obtain ⟨y, hy, rfl⟩ := enumL_get hx
  obtain ⟨w, ew, rw⟩ := h2.get hy
  refine ⟨⟨vs, w, h1, ew⟩, fun v H'' q => ?_⟩
  obtain ⟨T, z, rfl, hT, rfl, q⟩ := q
  have := q vs h1
  rw [ew] at this
  cases this
  rw [Nat.zero_add]
  exact rd_pair hl' hT (RD.int _) rw
theorem iof_enumT {pv : PV} {xs : List PyData} {a : Addr} (hl : Rl K φ F S H) (r : RP K φ F H pv (.ref a)) (e : deref S pv = some (.tuple xs)) : Iof K (IteT K a) (enumL 0 xs) (still pv xs) φ F H := by
  intro φ' F' S' H' st hl' g
  obtain ⟨b, vs, eb, h1, h2⟩ := RD.tup (walked hl r e rfl st hl' g)
  cases eb
  refine ⟨fun i x hx => ?_, fun i hi => ⟨vs, h1, by rw [← h2.length, ← enumL_length xs 0]; exact hi⟩⟩
  obtain ⟨y, hy, rfl⟩ := enumL_get hx
  obtain ⟨w, ew, rw⟩ := h2.get hy
  refine ⟨⟨vs, w, h1, ew⟩, fun v H'' q => ?_⟩
  obtain ⟨T, z, rfl, hT, rfl, q⟩ := q
  have := q vs h1
  rw [ew] at this
  cases this
  rw [Nat.zero_add]
  exact rd_pair hl' hT (RD.int _) rw
theorem zipL_get : ∀ {xs ys : List PyData} {i : Nat} {x : PyData}, (zipL xs ys)[i]? = some x → ∃ y z, xs[i]? = some y ∧ ys[i]? = some z ∧ x = .tuple [y, z]
  | [], ys, i, x, h => by simp [zipL] at h
  | y :: xs, [], i, x, h => by simp [zipL] at h
  | y :: xs, z :: ys, 0, x, h => by simp [zipL] at h; subst h; exact ⟨y, z, rfl, rfl, rfl⟩
  | y :: xs, z :: ys, i + 1, x, h => by
    simp only [zipL, List.getElem?_cons_succ] at h
    obtain ⟨u, w, e1, e2, rfl⟩ := zipL_get h
    exact ⟨u, w, by simpa using e1, by simpa using e2, rfl⟩
theorem zipL_length : ∀ (xs ys : List PyData), (zipL xs ys).length = min xs.length ys.length
  | [], ys => by simp [zipL]
  | _ :: xs, [] => by simp [zipL]
  | _ :: xs, _ :: ys => by simp [zipL, zipL_length xs ys]
theorem iof_zipL {pv qv : PV} {xs ys : List PyData} {a b : Addr} (hl : Rl K φ F S H) (r : RP K φ F H pv (.ref a)) (r2 : RP K φ F H qv (.ref b)) (e : deref S pv = some (.list xs)) (e2 : deref S qv = some (.list ys)) :
    Iof K (Itz K a b) (zipL xs ys) (fun S => still pv xs S ∧ still qv ys S) φ F H := by
  intro φ' F' S' H' st hl' g
  obtain ⟨c, vs, eb, h1, h2⟩ := walked hl r e rfl st hl' g.1
  cases eb
  obtain ⟨c, ws, eb, g1, g2⟩ := walked hl r2 e2 rfl st hl' g.2
  cases eb
  refine ⟨fun i x hx => ?_, fun i hi => ⟨vs, ws, h1, g1, by rw [← h2.length, ← g2.length]; rw [zipL_length] at hi; omega⟩⟩
  obtain ⟨y, z, hy, hz, rfl⟩ := zipL_get hx
  obtain ⟨w, ew, rw⟩ := h2.get hy
  obtain ⟨w2, ew2, rw2⟩ := g2.get hz
  refine ⟨⟨vs, ws, w, w2, h1, g1, ew, ew2⟩, fun v H'' q => ?_⟩
  obtain ⟨T, z, z2, rfl, hT, rfl, q, q2⟩ := q
  have := q vs h1
  rw [ew] at this
  cases this
  have := q2 ws g1
  rw [ew2] at this
  cases this
  exact rd_pair hl' hT rw rw2
theorem iof_zipT {pv qv : PV} {xs ys : List PyData} {a b : Addr} (hl : Rl K φ F S H) (r : RP K φ F H pv (.ref a)) (r2 : RP K φ F H qv (.ref b)) (e : deref S pv = some (.tuple xs)) (e2 : deref S qv = some (.tuple ys)) :
    Iof K (RZ.ItzT K a b) (zipL xs ys) (fun S => still pv xs S ∧ still qv ys S) φ F H := by
  intro φ' F' S' H' st hl' g
  obtain ⟨c, vs, eb, h1, h2⟩ := RD.tup (walked hl r e rfl st hl' g.1)
  cases eb
  obtain ⟨c, ws, eb, g1, g2⟩ := RD.tup (walked hl r2 e2 rfl st hl' g.2)
  cases eb
  refine ⟨fun i x hx => ?_, fun i hi => ⟨vs, ws, h1, g1, by rw [← h2.length, ← g2.length]; rw [zipL_length] at hi; omega⟩⟩
  obtain ⟨y, z, hy, hz, rfl⟩ := zipL_get hx
  obtain ⟨w, ew, rw⟩ := h2.get hy
  obtain ⟨w2, ew2, rw2⟩ := g2.get hz
  refine ⟨⟨vs, ws, w, w2, h1, g1, ew, ew2⟩, fun v H'' q => ?_⟩
  obtain ⟨T, z, z2, rfl, hT, rfl, q, q2⟩ := q
  have := q vs h1
  rw [ew] at this
  cases this
  have := q2 ws g1
  rw [ew2] at this
  cases this
  exact rd_pair hl' hT rw rw2
theorem zipL3_get : ∀ {xs ys zs : List PyData} {i : Nat} {x : PyData}, (zipL3 xs ys zs)[i]? = some x → ∃ y z w, xs[i]? = some y ∧ ys[i]? = some z ∧ zs[i]? = some w ∧ x = .tuple [y, z, w]
  | [], ys, zs, i, x, h => by simp [zipL3] at h
  | y :: xs, [], zs, i, x, h => by simp [zipL3] at h
  | y :: xs, z :: ys, [], i, x, h => by simp [zipL3] at h
  | y :: xs, z :: ys, w :: zs, 0, x, h => by simp [zipL3] at h; subst h; exact ⟨y, z, w, rfl, rfl, rfl, rfl⟩
  | y :: xs, z :: ys, w :: zs, i + 1, x, h => by
    simp only [zipL3, List.getElem?_cons_succ] at h
    obtain ⟨u, v, t, e1, e2, e3, rfl⟩ := zipL3_get h
    exact ⟨u, v, t, by simpa using e1, by simpa using e2, by simpa using e3, rfl⟩
theorem zipL3_length : ∀ (xs ys zs : List PyData), (zipL3 xs ys zs).length = min xs.length (min ys.length zs.length)
  | [], ys, zs => by simp [zipL3]
  | _ :: xs, [], zs => by simp [zipL3]
  | _ :: xs, _ :: ys, [] => by simp [zipL3]
  | _ :: xs, _ :: ys, _ :: zs => by
    simp only [zipL3, List.length_cons, zipL3_length xs ys zs]
    omega
theorem iof_zipL3 {pv qv tv : PV} {xs ys zs : List PyData} {a b c : Addr} (hl : Rl K φ F S H) (r : RP K φ F H pv (.ref a)) (r2 : RP K φ F H qv (.ref b)) (r3 : RP K φ F H tv (.ref c)) (e : deref S pv = some (.list xs)) (e2 : deref S qv = some (.list ys)) (e3 : deref S tv = some (.list zs)) :
    Iof K (Itz3 K a b c) (zipL3 xs ys zs) (fun S => still pv xs S ∧ still qv ys S ∧ still tv zs S) φ F H := by
  intro φ' F' S' H' st hl' g
  obtain ⟨c1, vs, eb, h1, h2⟩ := walked hl r e rfl st hl' g.1
  cases eb
  obtain ⟨c2, ws, eb, g1, g2⟩ := walked hl r2 e2 rfl st hl' g.2.1
  cases eb
  obtain ⟨c3, us, eb, f1, f2⟩ := walked hl r3 e3 rfl st hl' g.2.2
  cases eb
  refine ⟨fun i x hx => ?_, fun i hi => ⟨vs, ws, us, h1, g1, f1, by rw [← h2.length, ← g2.length, ← f2.length]; rw [zipL3_length] at hi; omega⟩⟩
  obtain ⟨y, z, t, hy, hz, ht, rfl⟩ := zipL3_get hx
  obtain ⟨w, ew, rw⟩ := h2.get hy
  obtain ⟨w2, ew2, rw2⟩ := g2.get hz
  obtain ⟨w3, ew3, rw3⟩ := f2.get ht
  refine ⟨⟨vs, ws, us, w, w2, w3, h1, g1, f1, ew, ew2, ew3⟩, fun v H'' q => ?_⟩
  obtain ⟨T, z, z2, z3, rfl, hT, rfl, q, q2, q3⟩ := q
  have := q vs h1
  rw [ew] at this
  cases this
  have := q2 ws g1
  rw [ew2] at this
  cases this
  have := q3 us f1
  rw [ew3] at this
  cases this
  exact ⟨Stp.fresh hT, hl'.fresh hT, RD.tupNew hl' hT (.cons rw (.cons rw2 (.cons rw3 .nil)))⟩
theorem rangeL_get {lo hi : Int} {i : Nat} {x : PyData} (h : (rangeL lo hi)[i]? = some x) : i < (hi - lo).toNat ∧ x = .int (lo + i) := by
  unfold rangeL at h
  rw [List.getElem?_map] at h
  obtain ⟨k, e, rfl⟩ := Option.map_eq_some_iff.mp h
  have := (List.getElem?_eq_some_iff.mp e).1
  simp at this
  rw [List.getElem?_range (by omega)] at e
  cases e
  exact ⟨by omega, rfl⟩
theorem iof_rng {lo hi : Int} : Iof K (Itr lo (hi - lo).toNat) (rangeL lo hi) (fun _ => True) φ F H := by
  intro φ' F' S' H' st hl' g
  refine ⟨fun i x hx => ?_, fun i hj => ?_⟩
  · obtain ⟨h1, rfl⟩ := rangeL_get hx
    refine ⟨h1, fun v H'' q => ?_⟩
    obtain ⟨rfl, rfl⟩ := q
    exact ⟨Stp.refl, hl', RD.int _⟩
  · show (hi - lo).toNat ≤ _
    unfold rangeL at hj
    simpa using hj
end
section
variable {X : Cx} {P : Prm} {pos p : Pos} {a b tg : Expr} {ca cb : CE}
theorem items_of {x : PyData} {xs : List PyData} (h : Cr.items x = some xs) : x = .list xs ∨ x = .tuple xs := by
  cases x <;> simp [Cr.items] at h
  · exact .inl (by rw [h])
  · exact .inr (by rw [h])
theorem VD.isRef {K : Fg} {F : FS} {H : Hp} {x : PyData} {xs : List PyData} {v : V} (h : VD K F H x v) (e : Cr.items x = some xs) : ∃ a, v = .ref a := by
  obtain ⟨a, _, rfl, _⟩ := h.items e; exact ⟨a, rfl⟩
def plainIt : CE → Bool
  | .enm _ => false
  | .zip _ _ => false
  | .zip3 _ _ _ => false
  | .rng _ _ => false
  | _ => true
theorem evi_plain {c : CE} (h : plainIt c = true) (ρ : Ev) (S : Store) : evi P c ρ S = itV (ev P c ρ S) := by
  cases c <;> first | rfl | (simp [plainIt] at h)
/-- a value walked -/
theorem r_iv (hp : plainIt ca = true) (ha : PE X a (tE X.K P ca)) : PI X tg a (tI X.K P ca) := by
  refine ⟨fun pins s σ H R I h => ?_⟩
  obtain ⟨φ, F, ρ, S, hl, hρ, xs, g, S', e, q⟩ := h
  rw [evi_plain hp] at e
  unfold itV at e
  obtain ⟨⟨pv, S1⟩, e1, e⟩ := Option.bind_eq_some_iff.mp e
  obtain ⟨x, e2, e⟩ := Option.bind_eq_some_iff.mp e
  obtain ⟨ys, e3, e⟩ := Option.map_eq_some_iff.mp e
  cases e
  rcases items_of e3 with rfl | rfl
  · refine (pi_list (tg := tg) ha).run pins s σ H R I ⟨φ, F, ρ, S, hl, hρ, pv, S1, e1, fun φ1 F1 H1 v st1 hl1 r1 _ => ?_⟩
    obtain ⟨b, vs, rfl, h1, h2⟩ := VD.deref hl1 r1 e2
    exact ⟨b, rfl, ⟨vs, h1⟩, q _ φ1 F1 H1 st1 hl1 (iof_list hl1 r1 e2)⟩
  · refine (pi_tup (tg := tg) ha).run pins s σ H R I ⟨φ, F, ρ, S, hl, hρ, pv, S1, e1, fun φ1 F1 H1 v st1 hl1 r1 _ => ?_⟩
    obtain ⟨b, vs, rfl, h1, h2⟩ := RD.tup (VD.deref hl1 r1 e2)
    exact ⟨b, rfl, ⟨vs, h1⟩, q _ φ1 F1 H1 st1 hl1 (iof_tup hl1 r1 e2)⟩
theorem r_enm {elts : List Expr} {kk : Nat} {tpos : Pos} (hg : Gl X "enumerate") (hm : X.mg "enumerate" = none) (hs : nst a = true) (ha : PE X a (tE X.K P ca)) :
    PI X (.Tuple elts kk tpos) (.Call (.Name "enumerate" p) [a] [] pos) (tI X.K P (.enm ca)) := by
  refine PI.imp (pi_enumA hg hm (r_pcons hs ha r_pnil) (nst_ok hs [] _)) fun σ H R h => ?_
  obtain ⟨φ, F, ρ, S, hl, hρ, xs, g, S', e, q⟩ := h
  have e : itE (ev P ca ρ S) = some ((xs, g), S') := e
  unfold itE at e
  obtain ⟨⟨pv, S1⟩, e1, e⟩ := Option.bind_eq_some_iff.mp e
  obtain ⟨x, e2, e⟩ := Option.bind_eq_some_iff.mp e
  obtain ⟨ys, e3, e⟩ := Option.map_eq_some_iff.mp e
  cases e
  refine ⟨φ, F, ρ, S, hl, hρ, [pv], S1, by rw [evp, e1]; simp [evp], fun φ1 F1 H1 vs st1 hl1 r1 => ?_⟩
  unfold RPs at r1
  obtain ⟨v, r, rfl, r1, r2⟩ := r1
  unfold RPs at r2
  subst r2
  rcases items_of e3 with rfl | rfl
  · obtain ⟨b, vs, rfl, h1, h2⟩ := VD.deref hl1 r1 e2
    exact ⟨b, vs, rfl, .inl ⟨h1, q _ φ1 F1 H1 st1 hl1 (iof_enumL hl1 r1 e2)⟩⟩
  · obtain ⟨b, vs, rfl, h1, h2⟩ := RD.tup (VD.deref hl1 r1 e2)
    exact ⟨b, vs, rfl, .inr ⟨h1, q _ φ1 F1 H1 st1 hl1 (iof_enumT hl1 r1 e2)⟩⟩
theorem evp2 {ρ : Ev} {S S1 S2 : Store} {pv qv : PV} (e1 : ev P ca ρ S = some (pv, S1)) (e2 : ev P cb ρ S1 = some (qv, S2)) : evp P [ca, cb] ρ S = some ([pv, qv], S2) := by
  rw [evp, e1]
  simp [evp, e2]
theorem rps2 {K : Fg} {φ : Phi} {F : FS} {H : Hp} {pv qv : PV} {vs : List V} (h : RPs K φ F H [pv, qv] vs) : ∃ v w, vs = [v, w] ∧ RP K φ F H pv v ∧ RP K φ F H qv w := by
  unfold RPs at h
  obtain ⟨v, r, rfl, h1, h⟩ := h
  unfold RPs at h
  obtain ⟨w, r, rfl, h2, h⟩ := h
  unfold RPs at h
  subst h
  exact ⟨v, w, rfl, h1, h2⟩
theorem r_zip {elts : List Expr} {kk : Nat} {tpos : Pos} (hg : Gl X "zip") (hm : X.mg "zip" = none) (hs : nst a = true) (hs2 : nst b = true) (ha : PE X a (tE X.K P ca)) (hb : PE X b (tE X.K P cb)) :
    PI X (.Tuple elts kk tpos) (.Call (.Name "zip" p) [a, b] [] pos) (tI X.K P (.zip ca cb)) := by
  refine PI.imp (RZ.pi_zipA hg hm (r_pcons hs ha (r_pcons hs2 hb r_pnil)) (nst_ok hs _ _) (nst_all (by simp [hs2]))) fun σ H R h => ?_
  obtain ⟨φ, F, ρ, S, hl, hρ, xs, g, S', e, q⟩ := h
  have e : itZ (ev P ca ρ S) (ev P cb ρ) = some ((xs, g), S') := e
  unfold itZ at e
  obtain ⟨⟨pv, S1⟩, e1, e⟩ := Option.bind_eq_some_iff.mp e
  obtain ⟨⟨qv, S2⟩, e2, e⟩ := Option.bind_eq_some_iff.mp e
  obtain ⟨x, e3, e⟩ := Option.bind_eq_some_iff.mp e
  obtain ⟨y, e4, e⟩ := Option.bind_eq_some_iff.mp e
  obtain ⟨t, e5, e⟩ := Option.map_eq_some_iff.mp e
  cases e
  refine ⟨φ, F, ρ, S, hl, hρ, [pv, qv], S2, evp2 e1 e2, fun φ1 F1 H1 vs st1 hl1 r1 => ?_⟩
  obtain ⟨v, w, rfl, z1, z2⟩ := rps2 r1
  clear r1
  cases x with
  | list us =>
    cases y with
    | list ws =>
      simp only [zipD, Option.some.injEq] at e5
      cases e5
      obtain ⟨c, vs, rfl, h1, h2⟩ := VD.deref hl1 z1 e3
      obtain ⟨d, vs2, rfl, h3, h4⟩ := VD.deref hl1 z2 e4
      exact ⟨c, d, vs, vs2, rfl, .inl ⟨h1, h3, q _ φ1 F1 H1 st1 hl1 (iof_zipL hl1 z1 z2 e3 e4)⟩⟩
    | _ => simp [zipD] at e5
  | tuple us =>
    cases y with
    | tuple ws =>
      simp only [zipD, Option.some.injEq] at e5
      cases e5
      obtain ⟨c, vs, rfl, h1, h2⟩ := RD.tup (VD.deref hl1 z1 e3)
      obtain ⟨d, vs2, rfl, h3, h4⟩ := RD.tup (VD.deref hl1 z2 e4)
      exact ⟨c, d, vs, vs2, rfl, .inr ⟨h1, h3, q _ φ1 F1 H1 st1 hl1 (iof_zipT hl1 z1 z2 e3 e4)⟩⟩
    | _ => simp [zipD] at e5
  | _ => cases y <;> simp [zipD] at e5
theorem r_zip3 {d : Expr} {cd : CE} {elts : List Expr} {kk : Nat} {tpos : Pos} (hg : Gl X "zip") (hm : X.mg "zip" = none) (hs : nst a = true) (hs2 : nst b = true) (hs3 : nst d = true) (ha : PE X a (tE X.K P ca)) (hb : PE X b (tE X.K P cb)) (hd : PE X d (tE X.K P cd)) :
    PI X (.Tuple elts kk tpos) (.Call (.Name "zip" p) [a, b, d] [] pos) (tI X.K P (.zip3 ca cb cd)) := by
  refine PI.imp (pi_zip3 hg hm (r_pcons hs ha (r_pcons hs2 hb (r_pcons hs3 hd r_pnil))) (nst_ok hs _ _) (nst_all (by simp [hs2, hs3]))) fun σ H R h => ?_
  obtain ⟨φ, F, ρ, S, hl, hρ, xs, g, S', e, q⟩ := h
  have e : itZ3 (ev P ca ρ S) (ev P cb ρ) (ev P cd ρ) = some ((xs, g), S') := e
  unfold itZ3 at e
  obtain ⟨⟨pv, S1⟩, e1, e⟩ := Option.bind_eq_some_iff.mp e
  obtain ⟨⟨qv, S2⟩, e2, e⟩ := Option.bind_eq_some_iff.mp e
  obtain ⟨⟨tv, S3⟩, e0, e⟩ := Option.bind_eq_some_iff.mp e
  obtain ⟨x, e3, e⟩ := Option.bind_eq_some_iff.mp e
  obtain ⟨y, e4, e⟩ := Option.bind_eq_some_iff.mp e
  obtain ⟨z, e5, e⟩ := Option.bind_eq_some_iff.mp e
  obtain ⟨t, e6, e⟩ := Option.map_eq_some_iff.mp e
  cases e
  have ep : evp P [ca, cb, cd] ρ S = some ([pv, qv, tv], S3) := by
    rw [evp, e1]
    have e2 : ev P cb ρ S1 = some (qv, S2) := e2
    have e0 : ev P cd ρ S2 = some (tv, S3) := e0
    simp [evp, e2, e0]
  refine ⟨φ, F, ρ, S, hl, hρ, [pv, qv, tv], S3, ep, fun φ1 F1 H1 vs st1 hl1 r1 => ?_⟩
  unfold RPs at r1
  obtain ⟨v, vs1, rfl, z1, r1⟩ := r1
  obtain ⟨w, u, rfl, z2, z3⟩ := rps2 r1
  cases x with
  | list us =>
    cases y with
    | list ws =>
      cases z with
      | list ts =>
        simp only [zipD3, Option.some.injEq] at e6
        cases e6
        obtain ⟨c, vs, rfl, h1, h2⟩ := VD.deref hl1 z1 e3
        obtain ⟨d, vs2, rfl, h3, h4⟩ := VD.deref hl1 z2 e4
        obtain ⟨d2, vs3, rfl, h5, h6⟩ := VD.deref hl1 z3 e5
        exact ⟨c, d, d2, vs, vs2, vs3, rfl, h1, h3, h5, q _ φ1 F1 H1 st1 hl1 (iof_zipL3 hl1 z1 z2 z3 e3 e4 e5)⟩
      | _ => simp [zipD3] at e6
    | _ => cases z <;> simp [zipD3] at e6
  | _ => cases y <;> cases z <;> simp [zipD3] at e6
theorem r_rng2 (hg : Gl X "range") (hm : X.mg "range" = none) (hs : nst a = true) (hs2 : nst b = true) (ha : PE X a (tE X.K P ca)) (hb : PE X b (tE X.K P cb)) :
    PI X tg (.Call (.Name "range" p) [a, b] [] pos) (tI X.K P (.rng ca cb)) := by
  refine PI.imp (pi_range2 hg hm (r_pcons hs ha (r_pcons hs2 hb r_pnil)) (by rw [nst_ok hs, nst_ok hs2]; rfl) (by rw [nst_ok hs2]; rfl)) fun σ H R h => ?_
  obtain ⟨φ, F, ρ, S, hl, hρ, xs, g, S', e, q⟩ := h
  have e : itR (ev P ca ρ S) (ev P cb ρ) = some ((xs, g), S') := e
  unfold itR at e
  obtain ⟨⟨zs, S2⟩, e0, e⟩ := Option.map_eq_some_iff.mp e
  cases e
  obtain ⟨pv, S1, qv, x, y, e1, e2, e3, e4, e5⟩ := of_op2 e0
  refine ⟨φ, F, ρ, S, hl, hρ, [pv, qv], S2, evp2 e1 e2, fun φ1 F1 H1 vs st1 hl1 r1 => ?_⟩
  obtain ⟨v, w, rfl, r1, r2⟩ := rps2 r1
  cases x with
  | int i =>
    cases y with
    | int j =>
      simp only [rngD] at e5
      split at e5
      · rename_i hh
        cases e5
        have ev1 : v = .int i := (VD.deref hl1 r1 e3).intD rfl
        have ev2 : w = .int j := (VD.deref hl1 r2 e4).intD rfl
        subst ev1 ev2
        exact ⟨i, j, rfl, hh, q _ φ1 F1 H1 st1 hl1 iof_rng⟩
      · cases e5
    | _ => simp [rngD] at e5
  | _ => simp [rngD] at e5
theorem r_rng1 (hg : Gl X "range") (hm : X.mg "range" = none) (hs : nst a = true) (ha : PE X a (tE X.K P ca)) :
    PI X tg (.Call (.Name "range" p) [a] [] pos) (tI X.K P (.rng (.cst (.int 0)) ca)) := by
  refine PI.imp (pi_range1 hg hm (r_pcons hs ha r_pnil) (nst_ok hs [] _)) fun σ H R h => ?_
  obtain ⟨φ, F, ρ, S, hl, hρ, xs, g, S', e, q⟩ := h
  have e : itR (ev P (.cst (.int 0)) ρ S) (ev P ca ρ) = some ((xs, g), S') := e
  unfold itR at e
  obtain ⟨⟨zs, S2⟩, e0, e⟩ := Option.map_eq_some_iff.mp e
  cases e
  obtain ⟨pv, S1, qv, x, y, e1, e2, e3, e4, e5⟩ := of_op2 e0
  rw [ev] at e1
  cases e1
  simp only [Cr.deref, Option.some.injEq] at e3
  subst e3
  refine ⟨φ, F, ρ, S, hl, hρ, [qv], S2, by rw [evp, e2]; simp [evp], fun φ1 F1 H1 vs st1 hl1 r1 => ?_⟩
  unfold RPs at r1
  obtain ⟨v, r, rfl, r1, r2⟩ := r1
  unfold RPs at r2
  subst r2
  cases y with
  | int j =>
    simp only [rngD] at e5
    split at e5
    · rename_i hh
      cases e5
      have ev2 : v = .int j := (VD.deref hl1 r1 e4).intD rfl
      subst ev2
      refine ⟨j, rfl, hh.2.2.1, hh.2.2.2, ?_⟩
      have := q (Itr 0 (j - 0).toNat) φ1 F1 H1 st1 hl1 iof_rng
      simpa using this
    · cases e5
  | _ => simp [rngD] at e5
end
end Cr

/-! ## CrH -/
set_option Elab.async false
set_option linter.all false
set_option autoImplicit false
set_option maxRecDepth 100000
set_option maxHeartbeats 4000000
/-! CrH: targets, comprehensions. -/
namespace Cr
open PySem PySem.Spec L2

/-! ### targets -/
mutual
def pnames : Pat → List Nat
  | .nm i => [i]
  | .tup ps => pnamesL ps
def pnamesL : List Pat → List Nat
  | [] => []
  | p :: ps => pnames p ++ pnamesL ps
end
/-- σ' is σ but at vs -/
def But (vs : List Nat) (σ σ' : L2.St) : Prop := σ'.length = σ.length ∧ ∀ i, i ∉ vs → σ'[i]? = σ[i]?
def tG (K : Fg) (p : Pat) : TG := fun v σ H Q => ∃ φ F ρ x ρ', Re K φ F H ρ σ ∧ RD K F H x v ∧ bd p x ρ = some ρ' ∧ ∀ σ', Re K φ F H ρ' σ' → But (pnames p) σ σ' → Q σ' H
def tGs (K : Fg) (ps : List Pat) : TGs := fun vs σ H Q => ∃ φ F ρ xs ρ', Re K φ F H ρ σ ∧ RDs K F H xs vs ∧ bds ps xs ρ = some ρ' ∧ ∀ σ', Re K φ F H ρ' σ' → But (pnamesL ps) σ σ' → Q σ' H
theorem PG.imp {X : Cx} {e : Expr} {t t' : TG} (h : PG X e t) (i : ∀ v σ H Q, t' v σ H Q → t v σ H Q) : PG X e t' := ⟨fun pins s σ H v u Q I r q => h.run pins s σ H v u Q I r (i v σ H Q q)⟩
theorem PGs.imp {X : Cx} {e : List Expr} {t t' : TGs} (h : PGs X e t) (i : ∀ v σ H Q, t' v σ H Q → t v σ H Q) : PGs X e t' := ⟨fun pins s σ H v u Q I r q => h.run pins s σ H v u Q I r (i v σ H Q q)⟩
section
variable {X : Cx} {pos : Pos}
theorem g_name {i : Nat} {x : Str} (hN : X.N.Nodup) (hi : X.N[i]? = some x) (hx : Loc X.env.scope x) (hf : X.fn x = true ∨ X.env.scope.names.lookup x = some .local) : PG X (.Name x pos) (tG X.K (.nm i)) :=
  PG.imp (pg_name hN hi hx hf) fun v σ H Q h => by
    obtain ⟨φ, F, ρ, x, ρ', hρ, hr, e, q⟩ := h
    simp only [bd, Option.some.injEq] at e
    subst e
    refine q _ (hρ.set i (show RP X.K φ F H (.d x) v from hr)) ⟨by rw [List.length_set], fun j hj => ?_⟩
    rw [List.getElem?_set_ne]
    rintro rfl
    exact hj (by simp [pnames])
theorem gs_nil : PGs X [] (tGs X.K []) := PGs.imp pgs_nil fun vs σ H Q h => by
  obtain ⟨φ, F, ρ, xs, ρ', hρ, hr, e, q⟩ := h
  cases xs with
  | nil =>
    simp only [bds, Option.some.injEq] at e
    subst e
    unfold RDs at hr
    exact ⟨hr, q σ hρ ⟨rfl, fun _ _ => rfl⟩⟩
  | cons x xs => simp [bds] at e
theorem assignEach_cons {e : Expr} {es : List Expr} {env : Env} (h : nst e = true) : assignEach (e :: es) env = (false, assign e env) :: assignEach es env := by
  cases e <;> first | rfl | (simp [nst] at h)
theorem But.trans {vs ws : List Nat} {σ σ1 σ2 : L2.St} (a : But vs σ σ1) (b : But ws σ1 σ2) : But (vs ++ ws) σ σ2 :=
  ⟨b.1.trans a.1, fun i hi => by
    rw [List.mem_append, not_or] at hi
    rw [b.2 i hi.2, a.2 i hi.1]⟩
theorem gs_cons {e : Expr} {es : List Expr} {p : Pat} {ps : List Pat} (hs : nst e = true) (h1 : PG X e (tG X.K p)) (h2 : PGs X es (tGs X.K ps)) : PGs X (e :: es) (tGs X.K (p :: ps)) :=
  PGs.imp (pgs_cons h1 h2 (by rw [assignEach_cons hs]; rfl)) fun vs σ H Q h => by
    obtain ⟨φ, F, ρ, xs, ρ', hρ, hr, e, q⟩ := h
    cases xs with
    | nil => simp [bds] at e
    | cons x xs =>
      simp only [bds] at e
      obtain ⟨ρ1, e1, e2⟩ := Option.bind_eq_some_iff.mp e
      unfold RDs at hr
      obtain ⟨v, r, rfl, h1, h2⟩ := hr
      refine ⟨v, r, rfl, φ, F, ρ, x, ρ1, hρ, h1, e1, fun σ1 hρ1 b1 => ?_⟩
      exact ⟨φ, F, ρ1, xs, ρ', hρ1, h2, e2, fun σ2 hρ2 b2 => q σ2 hρ2 (b1.trans b2)⟩
theorem assignEach_all {env : Env} : ∀ {es : List Expr}, es.all nst = true → (assignEach es env).length = es.length ∧ (assignEach es env).findIdx? (·.1) = none
  | [], _ => ⟨rfl, rfl⟩
  | e :: es, h => by
    rw [List.all_cons, Bool.and_eq_true] at h
    have ih := assignEach_all (env := env) h.2
    rw [assignEach_cons h.1]
    exact ⟨by rw [List.length_cons, ih.1, List.length_cons], by rw [List.findIdx?_cons]; simp [ih.2]⟩
theorem bds_len : ∀ {ps : List Pat} {xs : List PyData} {ρ ρ' : Ev}, bds ps xs ρ = some ρ' → xs.length = ps.length
  | [], [], _, _, _ => rfl
  | [], _ :: _, _, _, h => by simp [bds] at h
  | _ :: _, [], _, _, h => by simp [bds] at h
  | p :: ps, x :: xs, _, _, h => by
    simp only [bds] at h
    obtain ⟨ρ1, e1, e2⟩ := Option.bind_eq_some_iff.mp h
    rw [List.length_cons, List.length_cons, bds_len e2]
theorem g_tup {es : List Expr} {k : Nat} {ps : List Pat} (hc : X.calm = true) (hs : es.all nst = true) (hl : ps.length = es.length) (h : PGs X es (tGs X.K ps)) : PG X (.Tuple es k pos) (tG X.K (.tup ps)) :=
  PG.imp (pg_tup hc h (assignEach_all hs).1 (assignEach_all hs).2) fun v σ H Q h => by
    obtain ⟨φ, F, ρ, x, ρ', hρ, hr, e, q⟩ := h
    cases x with
    | tuple xs =>
      simp only [bd] at e
      obtain ⟨a, vs, rfl, h1, h2⟩ := RD.tup hr
      exact ⟨a, vs, rfl, h1, by rw [← h2.length, bds_len e, hl], φ, F, ρ, xs, ρ', hρ, h2, e, fun σ' r b => q σ' r b⟩
    | _ => simp [bd] at e
end
theorem wipe_get (σ : L2.St) (i : Nat) : ∀ vs : List Nat, (wipe σ vs)[i]? = if i ∈ vs ∧ i < σ.length then some none else σ[i]?
  | [] => by simp [L2.wipe]
  | v :: vs => by
    unfold L2.wipe
    by_cases hv : v = i
    · subst hv
      by_cases hi : v < σ.length
      · rw [List.getElem?_set_self (by rw [wipe_length]; exact hi)]
        simp [hi]
      · rw [List.getElem?_eq_none (by rw [List.length_set, wipe_length]; omega)]
        rw [if_neg (by intro h; exact hi h.2), List.getElem?_eq_none (by omega)]
    · rw [List.getElem?_set_ne hv, wipe_get σ i vs]
      have : (i ∈ v :: vs ∧ i < σ.length) ↔ (i ∈ vs ∧ i < σ.length) := by
        simp [Ne.symm hv]
      simp only [this]
theorem wipe_but {vs ws : List Nat} {σ σ' : L2.St} (h : But ws (wipe σ vs) σ') (hs : ∀ i ∈ ws, i ∈ vs) : wipe σ' vs = wipe σ vs := by
  apply List.ext_getElem?
  intro i
  have hl : σ'.length = σ.length := by rw [h.1, wipe_length]
  rw [wipe_get, wipe_get, hl]
  by_cases hi : i ∈ vs ∧ i < σ.length
  · rw [if_pos hi, if_pos hi]
  · rw [if_neg hi, if_neg hi]
    by_cases hv : i ∈ ws
    · have : ¬ i < σ.length := fun h => hi ⟨hs i hv, h⟩
      rw [List.getElem?_eq_none (by omega), List.getElem?_eq_none (by omega)]
    · rw [h.2 i hv, wipe_get, if_neg hi]

/-! ### comprehensions -/
/-- a clause's tests -/
def tTs (K : Fg) (P : Prm) (es : List CE) : TT := fun σ H Q => ∃ φ F ρ S, Rl K φ F S H ∧ Re K φ F H ρ σ ∧ ∃ k S', evt P es ρ S = some (k, S') ∧
  ∀ φ' F' H', Stp φ F H φ' F' H' → Rl K φ' F' S' H' → Q k H'
theorem PTs.imp {X : Cx} {e : List Expr} {t t' : TT} (h : PTs X e t) (i : ∀ σ H Q, t' σ H Q → t σ H Q) : PTs X e t' := ⟨fun pins s σ H Q I q => h.run pins s σ H Q I (i σ H Q q)⟩
section
variable {X : Cx} {P : Prm} {pos : Pos} {a : Expr} {ca : CE}
theorem r_ts0 : PTs X [] (tTs X.K P []) := PTs.imp pts_nil fun σ H Q h => by
  obtain ⟨φ, F, ρ, S, hl, hρ, k, S', e, q⟩ := h
  rw [evt] at e
  cases e
  exact q φ F H Stp.refl hl
theorem r_ts1 (ha : PT X a (tT X.K P ca)) : PTs X [a] (tTs X.K P [ca]) := PTs.imp (pts_one ha) fun σ H Q h => by
  obtain ⟨φ, F, ρ, S, hl, hρ, k, S', e, q⟩ := h
  rw [evt] at e
  obtain ⟨⟨c, S1⟩, e1, e⟩ := Option.bind_eq_some_iff.mp e
  cases c with
  | true =>
    simp only [if_true] at e
    rw [evt] at e
    cases e
    exact ⟨φ, F, ρ, S, hl, hρ, true, _, e1, q⟩
  | false =>
    simp only [Bool.false_eq_true, if_false] at e
    cases e
    exact ⟨φ, F, ρ, S, hl, hρ, false, _, e1, q⟩
end
section
variable {K : Fg} {φ φ1 φ2 : Phi} {F F1 F2 : FS} {H H1 H2 : Hp} {S S1 : Store}
/-- what nothing knows is written -/
theorem rd_poke {D : Addr} {o : HO} {a : Addr} {u : HO} (hD : F D) (n : ¬ F a) (r : Rd H a u) : Rd (upd H D o) a u :=
  rd_keep r fun _ h => by rw [upd_ne (fun e => n (by rw [e]; exact hD))]; exact h
mutual
theorem RD.poke {D : Addr} {o : HO} (hD : F D) : ∀ {x : PyData} {v : V}, RD K F H x v → RD K F (upd H D o) x v
  | .none, _, h => h
  | .bool _, _, h => h
  | .int _, _, h => h
  | .str _, _, h => h
  | .tuple xs, v, h => by
    unfold RD at h ⊢
    obtain ⟨a, vs, e, h1, h2⟩ := h
    exact ⟨a, vs, e, h1.imp (fun h => ⟨h.1, rd_poke hD h.1 h.2⟩) id, RDs.poke hD h2⟩
  | .list xs, v, h => by
    unfold RD at h ⊢
    obtain ⟨a, vs, e, h1, h2⟩ := h
    exact ⟨a, vs, e, h1.imp (fun h => ⟨h.1, rd_poke hD h.1 h.2⟩) id, RDs.poke hD h2⟩
  | .dict _, _, h => by
    unfold RD at h ⊢
    obtain ⟨e0, a, e, n, r⟩ := h
    exact ⟨e0, a, e, n, rd_poke hD n r⟩
theorem RDs.poke {D : Addr} {o : HO} (hD : F D) : ∀ {xs : List PyData} {vs : List V}, RDs K F H xs vs → RDs K F (upd H D o) xs vs
  | [], _, h => by unfold RDs at h ⊢; exact h
  | x :: xs, _, h => by
    unfold RDs at h ⊢
    obtain ⟨v, r, e, h1, h2⟩ := h
    exact ⟨v, r, e, RD.poke hD h1, RDs.poke hD h2⟩
end
theorem RO.poke {D : Addr} {o : HO} (hD : F D) {p : Addr × Option Addr} {u : PO} (h1 : p.1 ≠ D) (h2 : ∀ c, p.2 = some c → c ≠ D) (h : RO K F H p u) : RO K F (upd H D o) p u := by
  cases u with
  | lst xs => obtain ⟨e, vs, g1, g2⟩ := h; exact ⟨e, vs, by rw [upd_ne h1]; exact g1, g2.poke hD⟩
  | src cells l m t => obtain ⟨c, e, g1, g2⟩ := h; exact ⟨c, e, by rw [upd_ne h1]; exact g1, by rw [upd_ne (h2 c e)]; exact g2⟩
theorem Rl.poke {D : Addr} {o : HO} (hl : Rl K φ F S H) (hD : F D) (hn : D ∉ ads φ) : Rl K φ F S (upd H D o) := by
  refine ⟨hl.len, hl.nd, hl.inF, fun a h => ?_, fun n u e => ?_⟩
  · unfold upd
    split
    · simp
    · exact hl.dom a h
  · obtain ⟨p, e1, r⟩ := hl.obj n u e
    refine ⟨p, e1, r.poke hD (fun z => hn (by rw [← z]; exact mem_ads (List.mem_of_getElem? e1))) fun c hc z => hn ?_⟩
    rw [← z]
    exact List.mem_flatMap.mpr ⟨p, List.mem_of_getElem? e1, by rw [hc]; simp⟩
theorem Rl.fewer (hl : Rl K φ F S H) (h1 : ∀ a, F1 a → F a) (h2 : ∀ a ∈ ads φ, F1 a) : Rl K φ F1 S H :=
  ⟨hl.len, hl.nd, h2, fun a h => hl.dom a (h1 a h), fun n u e => let ⟨p, e1, r⟩ := hl.obj n u e; ⟨p, e1, r.less h1⟩⟩
theorem Stp.poke {D : Addr} {o : HO} (st : Stp φ F H φ1 F1 H1) (hD : H D = none) : Stp φ F H φ1 F1 (upd H1 D o) := by
  refine ⟨st.more, st.fF, st.nF, fun a u hn h => ?_, fun a h => ?_⟩
  · rw [upd_ne (fun z => by rw [z, hD] at h; cases h)]
    exact st.keep a u hn h
  · unfold upd
    split
    · simp
    · exact st.dom a h
theorem Stp.notin {D : Addr} {o : HO} (st : Stp φ F H φ1 F1 H1) (hn : D ∉ ads φ) (hD : H D = some o) : D ∉ ads φ1 ∧ H1 D = some o := by
  refine ⟨?_, st.keep D o hn hD⟩
  obtain ⟨ψ, e, n⟩ := st.more
  rw [e, ads_append, List.mem_append, not_or]
  exact ⟨hn, fun h => by rw [n D h] at hD; cases hD⟩
theorem Re.poke {D : Addr} {o : HO} {ρ : Ev} {σ : L2.St} (h : Re K φ F H ρ σ) (hD : F D) : Re K φ F (upd H D o) ρ σ := ⟨h.len, fun i pv e => by
  obtain ⟨v, e1, r⟩ := h.get i pv e
  refine ⟨v, e1, ?_⟩
  cases pv with
  | d x => exact RD.poke hD r
  | r n => exact r⟩
end
theorem cmpL_cons {f : PyData → Store → Option (List PyData × Store)} {x : PyData} {xs : List PyData} {S S' : Store} {zs : List PyData} (h : cmpL f (x :: xs) S = some (zs, S')) :
    ∃ ys S1 rest, f x S = some (ys, S1) ∧ cmpL f xs S1 = some (rest, S') ∧ zs = ys ++ rest := by
  unfold cmpL at h
  obtain ⟨⟨ys, S1⟩, e1, h⟩ := Option.bind_eq_some_iff.mp h
  obtain ⟨⟨rest, S2⟩, e2, h⟩ := Option.map_eq_some_iff.mp h
  cases h
  exact ⟨ys, S1, rest, e1, e2, rfl⟩
section
variable {X : Cx} {P : Prm} {pos : Pos}
theorem to_lc {K : Fg} {own : List Nat} {p : Pat} {ci : CE} {cifs : List CE} {celt : CE} (hp : ∀ i ∈ pnames p, i ∈ own) (σ : L2.St) (H : Hp) (Q : VK) (h : tE K P (.comp own p ci cifs celt) σ H Q) :
    tLc (tI K P ci) (tG K p) (tTs K P cifs) (tE K P celt) own σ H Q := by
  obtain ⟨φ, F, ρ, S, hl, hρ, pv, SZ, e, q⟩ := h
  rw [ev_comp] at e
  unfold inLine clause at e
  obtain ⟨⟨zs0, S00⟩, e0, e⟩ := Option.bind_eq_some_iff.mp e
  obtain ⟨⟨⟨xs, g⟩, S1⟩, e1, e0⟩ := Option.bind_eq_some_iff.mp e0
  obtain ⟨⟨zs, S'⟩, e2, e0⟩ := Option.bind_eq_some_iff.mp e0
  simp only at e0 e2
  split at e0
  case isFalse => cases e0
  rename_i hg
  have e3 := Option.some.inj e0
  have e4 : zs = zs0 := congrArg Prod.fst e3
  have e5 : S' = S00 := congrArg Prod.snd e3
  subst e4 e5
  clear e0 e3
  split at e
  case isFalse => cases e
  rename_i hz
  have e3 := Option.some.inj e
  have e4 : PV.d (PyData.list zs) = pv := congrArg Prod.fst e3
  have e5 : S' = SZ := congrArg Prod.snd e3
  subst e4 e5
  clear e e3
  simp only at hz
  refine ⟨φ, F, ρ, S, hl, hρ, xs, g, S1, e1, fun J φ1 F1 H1 st1 hl1 iof => fun D hD => ?_⟩
  have hF1 : ¬ F1 D := fun h => hl1.dom D h hD
  have hn1 : D ∉ ads φ1 := fun h => hF1 (hl1.inF D h)
  obtain ⟨f, hf⟩ : ∃ f, f = (fun (y : PyData) (S : Store) => @ite _ (g S) (Classical.propDecidable _) (turnC P own p cifs (eltC P celt) ρ y S) none) := ⟨_, rfl⟩
  rw [← hf] at e2
  refine ⟨fun i m H' => m = xs.length - i ∧ i ≤ xs.length ∧ ∃ φ2 F2 S2 ys vs rest, Stp φ1 F1 H1 φ2 F2 H' ∧ Rl K φ2 F2 S2 H' ∧ F2 D ∧ D ∉ ads φ2 ∧ H' D = some (.lst vs) ∧ RDs K F2 H' ys vs ∧ cmpL f (xs.drop i) S2 = some (rest, S') ∧ zs = ys ++ rest,
    ⟨xs.length, by simp, Nat.zero_le _, φ1, fun b => F1 b ∨ b = D, S1, [], [], zs, Stp.avoid hD, hl1.avoid hD, .inr rfl, hn1, upd_same, .nil, e2, rfl⟩, ?_⟩
  rintro i m H' ⟨rfl, hi, φ2, F2, S2, ys, vs, rest, st2, hl2, hD2, hn2, hv2, hr2, e3, rfl⟩
  by_cases hlt : i < xs.length
  · right
    have hx : xs[i]? = some xs[i] := List.getElem?_eq_getElem hlt
    generalize hxi : xs[i] = x at hx
    have hdrop : xs.drop i = x :: xs.drop (i + 1) := by rw [← hxi]; exact List.drop_eq_getElem_cons hlt
    rw [hdrop] at e3
    obtain ⟨y1, S3, rest2, e4, e5, rfl⟩ := cmpL_cons e3
    rw [hf] at e4
    simp only at e4
    split at e4
    case isFalse => cases e4
    rename_i hg2
    obtain ⟨go, yl⟩ := (iof φ2 F2 S2 H' st2 hl2 hg2).1 i x hx
    refine ⟨go, fun H'' => ∃ φ3 F3 vs', Stp φ1 F1 H1 φ3 F3 H'' ∧ Rl K φ3 F3 S3 H'' ∧ F3 D ∧ D ∉ ads φ3 ∧ H'' D = some (.lst vs') ∧ RDs K F3 H'' (ys ++ y1) vs', fun H'' h => ?_, fun v H'' y => ?_⟩
    · obtain ⟨φ3, F3, vs', a1, a2, a3, a4, a5, a6⟩ := h
      exact ⟨xs.length - (i + 1), by omega, rfl, hlt, φ3, F3, S3, ys ++ y1, vs', rest2, a1, a2, a3, a4, a5, a6, e5, by simp⟩
    · obtain ⟨sty, hly, ry⟩ := yl v H'' y
      have st3 := st2.trans sty
      have hρ3 : Re K φ2 F2 H'' (wipeE ρ own) (wipe σ own) := ((hρ.step (st1.trans st3) hl).wipe own)
      unfold turnC at e4
      obtain ⟨ρ1, e6, e4⟩ := Option.bind_eq_some_iff.mp e4
      obtain ⟨⟨k, S4⟩, e7, e4⟩ := Option.bind_eq_some_iff.mp e4
      refine ⟨φ2, F2, wipeE ρ own, x, ρ1, hρ3, ry, e6, fun σ2 hρ4 but => ⟨wipe_but but hp, ?_⟩⟩
      refine ⟨φ2, F2, ρ1, S2, hly, hρ4, k, S4, e7, fun φ4 F4 H4 st4 hl4 => ?_⟩
      obtain ⟨_, hv3⟩ := sty.notin hn2 hv2
      obtain ⟨hn4, hv4⟩ := st4.notin hn2 hv3
      have hr4 : RDs K F4 H4 ys vs := RDs.step st4 hly.inF (RDs.step sty hl2.inF hr2)
      cases k with
      | true =>
        simp only [if_true] at e4 ⊢
        unfold eltC at e4
        obtain ⟨⟨z, S5⟩, e8, e4⟩ := Option.map_eq_some_iff.mp e4
        cases e4
        refine ⟨φ4, F4, ρ1, S4, hl4, hρ4.step st4 hly, .d z, S5, of_dt e8, fun φ5 F5 H5 w st5 hl5 r5 _ => ?_⟩
        obtain ⟨hn5, hv5⟩ := st5.notin hn4 hv4
        have hr5 : RDs K F5 H5 ys vs := RDs.step st5 hl4.inF hr4
        have hD5 : F5 D := st5.fF D (st4.fF D hD2)
        refine ⟨vs, hv5, ?_, φ5, F5, vs ++ [w], ((st3.trans st4).trans st5).poke hD, hl5.poke hD5 hn5, hD5, hn5, upd_same, ?_⟩
        · have h1 : sizeLine = line := rfl
          rw [← hr2.length, h1]
          simp at hz
          omega
        · exact RDs.poke hD5 (hr5.append (.cons r5 .nil))
      | false =>
        simp only [Bool.false_eq_true, if_false] at e4 ⊢
        cases e4
        exact ⟨φ4, F4, vs, st3.trans st4, hl4, st4.fF D hD2, hn4, hv4, by rw [List.append_nil]; exact hr4⟩
  · left
    have hie : i = xs.length := by omega
    subst hie
    rw [List.drop_length] at e3
    unfold cmpL at e3
    cases e3
    rw [List.append_nil] at q
    refine ⟨(iof φ2 F2 S' H' st2 hl2 hg).2 _ (Nat.le_refl _), ?_⟩
    have hF : ∀ a, F2 a ∧ a ≠ D → F2 a := fun a h => h.1
    have hads : ∀ a ∈ ads φ2, F2 a ∧ a ≠ D := fun a h => ⟨hl2.inF a h, fun z => hn2 (by rw [← z]; exact h)⟩
    have hl3 : Rl K φ2 (fun a => F2 a ∧ a ≠ D) S' H' := hl2.fewer hF hads
    have st3 : Stp φ1 F1 H1 φ2 (fun a => F2 a ∧ a ≠ D) H' := ⟨st2.more, fun a h => ⟨st2.fF a h, fun z => hF1 (by rw [← z]; exact h)⟩, fun a h n => st2.nF a h.1 n, st2.keep, st2.dom⟩
    refine q φ2 (fun a => F2 a ∧ a ≠ D) H' (.ref D) (st1.trans st3) hl3 ?_ fun _ us e => ?_
    · show RD K _ H' (.list ys) _
      unfold RD
      exact ⟨D, vs, rfl, .inl ⟨fun h => h.2 rfl, .inl hv2⟩, hr2.less hF⟩
    · cases e
      have hH : H D = none := by
        cases z : H D with
        | none => rfl
        | some o => exact absurd hD (st1.dom D (by rw [z]; simp))
      have sub : ∀ b, (F2 b ∧ b ≠ D) ∨ b = D → F2 b := fun b h => by
        rcases h with h | rfl
        · exact h.1
        · exact hD2
      refine ⟨D, vs, rfl, hH, fun h => h.2 rfl, hv2, hl2.fewer sub fun a h => .inl (hads a h), hr2.less sub⟩
theorem r_comp {elt tg iter : Expr} {ifs : List Expr} {scope : Scope} {own : List (Str × Nat)} {ci : CE} {cifs : List CE} {celt : CE} {p : Pat} (hc : X.calm = true) (hN : X.N.Nodup) (hi : PI X tg iter (tI X.K P ci)) (ok : BlkOk X.N X.env.scope scope own)
    (hp : ∀ i ∈ pnames p, i ∈ own.map (·.2))
    (hg : ∀ (s : Shared) (H : Hp) (C : Addr) (cl : List (Str × Addr)) (fp : List Addr), PG (X.blk s H scope (compEnvC scope cl C X.env) fp) tg (tG X.K p)) (ht : ∀ (s : Shared) (H : Hp) (C : Addr) (cl : List (Str × Addr)) (fp : List Addr), PTs (X.blk s H scope (compEnvC scope cl C X.env) fp) ifs (tTs X.K P cifs))
    (he : ∀ (s : Shared) (H : Hp) (C : Addr) (cl : List (Str × Addr)) (fp : List Addr), PE (X.blk s H scope (compEnvC scope cl C X.env) fp) elt (tE X.K P celt)) (hs : ∀ x, foldedSetIterable iter X.env x = pure x) :
    PE X (.ListComp elt [⟨tg, iter, ifs, 0⟩] scope pos) (tE X.K P (.comp (own.map (·.2)) p ci cifs celt)) :=
  PE.imp (pe_lc hc hN hi ok hg ht he hs) fun σ H Q h => to_lc hp σ H Q h
end
end Cr

/-! ## CrI -/
set_option Elab.async false
set_option linter.all false
set_option autoImplicit false
set_option maxRecDepth 100000
set_option maxHeartbeats 4000000
/-! CrI: statements. -/
namespace Cr
open PySem PySem.Spec L2

/-! ### a value that may be a new list -/
def tN (K : Fg) (P : Prm) (e : CE) : TE := fun σ H Q => ∃ φ F ρ S, Rl K φ F S H ∧ Re K φ F H ρ σ ∧ ∃ pv nw S', evn P e ρ S = some ((pv, nw), S') ∧
  ∀ φ' F' H' v, Stp φ F H φ' F' H' → Rl K φ' F' S' H' → RP K φ' F' H' pv v → (nw = true → ∀ xs, pv = .d (.list xs) → NewL K φ' F' S' H H' xs v) → Q v H'
def notCall : CE → Bool
  | .call _ _ => false
  | _ => true
theorem evn_plain {P : Prm} {c : CE} (h : notCall c = true) (ρ : Ev) (S : Store) : evn P c ρ S = (ev P c ρ S).map fun r => ((r.1, isNew c), r.2) := by
  cases c <;> first | rfl | (simp [notCall] at h)
theorem tN_tE {K : Fg} {P : Prm} {c : CE} (h : notCall c = true) (σ : L2.St) (H : Hp) (Q : VK) (t : tN K P c σ H Q) : tE K P c σ H Q := by
  obtain ⟨φ, F, ρ, S, hl, hρ, pv, nw, S', e, q⟩ := t
  rw [evn_plain h] at e
  obtain ⟨⟨pv0, S0⟩, e1, e⟩ := Option.map_eq_some_iff.mp e
  cases e
  exact ⟨φ, F, ρ, S, hl, hρ, _, _, e1, q⟩
section
variable {X : Cx} {P : Prm} {pos : Pos} {a : Expr} {ca : CE}
theorem r_n (h : notCall ca = true) (ha : PE X a (tE X.K P ca)) : PE X a (tN X.K P ca) := PE.imp ha (tN_tE h)
theorem r_nCall {f : Nat} {x : Str} {e : Expr} {es : List Expr} {ces : List CE} {p : Pos} (hf : FnAt X P.C f x) (hg : Gl X x) (hdb : (x == ("__debug__" : Str)) = false) (hs : (e :: es).all nst = true) (ha : PA X (e :: es) (tP X.K P ces)) :
    PE X (.Call (.Name x p) (e :: es) [] pos) (tN X.K P (.call f ces)) := by
  obtain ⟨k, addr, fd, ps, ok, room, hm, hk, hb⟩ := hf.ok
  have hs1 : nst e = true := by rw [List.all_cons, Bool.and_eq_true] at hs; exact hs.1
  have hs2 : es.all nst = true := by rw [List.all_cons, Bool.and_eq_true] at hs; exact hs.2
  refine PE.imp (pe_callG ok hf.gd room hg hm hk hb ha hdb (nst_ok hs1 _ _) (nst_all hs2)) fun σ H Q h => ?_
  obtain ⟨φ, F, ρ, S, hl, hρ, pv, nw, S', e, q⟩ := h
  have e : ((evp P ces ρ S).bind fun r => (callC P.C (P.refs f) f r.1 r.2).map fun q => ((PV.d q.1, q.2.1), q.2.2)) = some ((pv, nw), S') := e
  obtain ⟨⟨ps, S1⟩, e1, e⟩ := Option.bind_eq_some_iff.mp e
  obtain ⟨⟨x, nw', S2⟩, e2, e⟩ := Option.map_eq_some_iff.mp e
  cases e
  refine ⟨φ, F, ρ, S, hl, hρ, ps, S1, e1, fun φ1 F1 H1 vs st1 hl1 r1 => ?_⟩
  show spC X.K P.C f (vs ++ []) H1 Q (fun _ _ _ => False)
  rw [List.append_nil]
  exact to_spC hl1 r1 e2 fun H' v st hl' rd nl => q φ1 F1 H' v (st1.trans st) hl' rd fun hn xs ex => by cases ex; exact (nl hn xs rfl).back st1
end

/-! ### statements -/
/-- what is wanted behind a flow: (φ F H) the state that the statement began with, (φb Fb Hb) the state that the def began with -/
def Fin (K : Fg) (φb : Phi) (Fb : FS) (Hb : Hp) (φ : Phi) (F : FS) (H : Hp) (D : Ends) : Fl → Prop
  | .nx ρ S => ∀ φ' F' H' σ, Stp φ F H φ' F' H' → Rl K φ' F' S H' → Re K φ' F' H' ρ σ → D.nx σ H'
  | .bk ρ S => ∀ φ' F' H' σ, Stp φ F H φ' F' H' → Rl K φ' F' S H' → Re K φ' F' H' ρ σ → D.bk σ H'
  | .ct ρ S => ∀ φ' F' H' σ, Stp φ F H φ' F' H' → Rl K φ' F' S H' → Re K φ' F' H' ρ σ → D.ct σ H'
  | .rt x nw S => ∀ H' v, Stp φb Fb Hb φb Fb H' → Rl K φb Fb S H' → RD K Fb H' x v → (nw = true → ∀ xs, x = .list xs → NewL K φb Fb S Hb H' xs v) → D.rt v H'
/-- at a state, with a result -/
def At (K : Fg) (n0 : Nat) (D : Ends) (σ : L2.St) (H : Hp) (r : Ev → Store → Option Fl) : Prop :=
  ∃ φb Fb Hb Sb φ F ρ S, Rl K φb Fb Sb Hb ∧ φb.length = n0 ∧ Stp φb Fb Hb φ F H ∧ Rl K φ F S H ∧ Re K φ F H ρ σ ∧ ∃ fl, r ρ S = some fl ∧ Fin K φb Fb Hb φ F H D fl
def tX1 (K : Fg) (P : Prm) (n0 : Nat) (s : CS) : TS := fun D σ H => At K n0 D σ H (sx P n0 s)
def tX (K : Fg) (P : Prm) (n0 : Nat) (ss : List CS) : TS := fun D σ H => At K n0 D σ H (sxs P n0 ss)
section
variable {X : Cx} {P : Prm} {n0 : Nat} {pos : Pos}
theorem s_nil : PSs X [] (tX X.K P n0 []) := PSs.imp pss_nil fun D σ H h => by
  obtain ⟨φb, Fb, Hb, Sb, φ, F, ρ, S, hb, hn, st, hl, hρ, fl, e, q⟩ := h
  rw [sxs] at e
  cases e
  exact q φ F H σ Stp.refl hl hρ
theorem Fin.later {K : Fg} {φb : Phi} {Fb : FS} {Hb : Hp} {φ φ1 : Phi} {F F1 : FS} {H H1 : Hp} {D : Ends} {fl : Fl} (st : Stp φ F H φ1 F1 H1) (h : Fin K φb Fb Hb φ F H D fl) : Fin K φb Fb Hb φ1 F1 H1 D fl := by
  cases fl with
  | rt x nw S => exact h
  | _ => exact fun φ' F' H' σ s => h φ' F' H' σ (st.trans s)
theorem s_cons {s : Stmt} {ss : List Stmt} {cs : CS} {css : List CS} (h1 : PS X s (tX1 X.K P n0 cs)) (h2 : PSs X ss (tX X.K P n0 css)) : PSs X (s :: ss) (tX X.K P n0 (cs :: css)) :=
  PSs.imp (pss_cons h1 h2) fun D σ H h => by
    obtain ⟨φb, Fb, Hb, Sb, φ, F, ρ, S, hb, hn, st, hl, hρ, fl, e, q⟩ := h
    rw [sxs] at e
    obtain ⟨f1, e1, e⟩ := Option.bind_eq_some_iff.mp e
    refine ⟨φb, Fb, Hb, Sb, φ, F, ρ, S, hb, hn, st, hl, hρ, f1, e1, ?_⟩
    cases f1 with
    | nx ρ1 S1 =>
      intro φ1 F1 H1 σ1 st1 hl1 hρ1
      exact ⟨φb, Fb, Hb, Sb, φ1, F1, ρ1, S1, hb, hn, st.trans st1, hl1, hρ1, fl, e, q.later st1⟩
    | rt x nw S1 => cases e; exact q
    | bk ρ1 S1 => cases e; exact q
    | ct ρ1 S1 => cases e; exact q
/-- behind another statement that leaves all as it is (a docstring, pass) -/
theorem s_skip {s : Stmt} {ss : List Stmt} {css : List CS} (h1 : PS X s tNext) (h2 : PSs X ss (tX X.K P n0 css)) : PSs X (s :: ss) (tX X.K P n0 css) := PSs.imp (pss_cons h1 h2) fun D σ H h => h
theorem s_pass : PS X (.Pass pos) (tX1 X.K P n0 .pass) := PS.imp ps_pass fun D σ H h => by
  obtain ⟨φb, Fb, Hb, Sb, φ, F, ρ, S, hb, hn, st, hl, hρ, fl, e, q⟩ := h
  rw [sx] at e
  cases e
  exact q φ F H σ Stp.refl hl hρ
theorem s_brk : PS X (.Break pos) (tX1 X.K P n0 .brk) := PS.imp ps_break fun D σ H h => by
  obtain ⟨φb, Fb, Hb, Sb, φ, F, ρ, S, hb, hn, st, hl, hρ, fl, e, q⟩ := h
  rw [sx] at e
  cases e
  exact q φ F H σ Stp.refl hl hρ
theorem s_cnt : PS X (.Continue pos) (tX1 X.K P n0 .cnt) := PS.imp ps_continue fun D σ H h => by
  obtain ⟨φb, Fb, Hb, Sb, φ, F, ρ, S, hb, hn, st, hl, hρ, fl, e, q⟩ := h
  rw [sx] at e
  cases e
  exact q φ F H σ Stp.refl hl hρ
theorem s_expr {e : Expr} {c : CE} (he : PE X e (tE X.K P c)) (hs : swapsWith e none pos.line X.env = pure false) : PS X (.Expr e pos) (tX1 X.K P n0 (.expr c)) := PS.imp (ps_expr he hs) fun D σ H h => by
  obtain ⟨φb, Fb, Hb, Sb, φ, F, ρ, S, hb, hn, st, hl, hρ, fl, e, q⟩ := h
  rw [sx] at e
  obtain ⟨⟨pv, S1⟩, e1, e⟩ := Option.map_eq_some_iff.mp e
  cases e
  exact ⟨φ, F, ρ, S, hl, hρ, pv, S1, e1, fun φ' F' H' v s hl' r _ => q φ' F' H' σ s hl' (hρ.step s hl)⟩
/-- name = value -/
theorem s_asg {s : Stmt} {i : Nat} {c : CE} {t : TE} (h : PS X s (tAsg t (gName i))) (ht : ∀ σ H Q, tE X.K P c σ H Q → t σ H Q) : PS X s (tX1 X.K P n0 (.asg (.nm i) c)) := PS.imp h fun D σ H h => by
  obtain ⟨φb, Fb, Hb, Sb, φ, F, ρ, S, hb, hn, st, hl, hρ, fl, e, q⟩ := h
  rw [sx] at e
  obtain ⟨⟨pv, S1⟩, e1, e⟩ := Option.bind_eq_some_iff.mp e
  cases e
  exact ht σ H _ ⟨φ, F, ρ, S, hl, hρ, pv, S1, e1, fun φ' F' H' v s hl' r _ => q φ' F' H' _ s hl' ((hρ.step s hl).set i r)⟩
theorem s_asgT {s : Stmt} {ps : List Pat} {c : CE} {t : TE} (h : PS X s (tAsg t (tG X.K (.tup ps)))) (ht : ∀ σ H Q, tE X.K P c σ H Q → t σ H Q) : PS X s (tX1 X.K P n0 (.asg (.tup ps) c)) := PS.imp h fun D σ H h => by
  obtain ⟨φb, Fb, Hb, Sb, φ, F, ρ, S, hb, hn, st, hl, hρ, fl, e, q⟩ := h
  rw [sx] at e
  obtain ⟨⟨pv, S1⟩, e1, e⟩ := Option.bind_eq_some_iff.mp e
  cases pv with
  | r n => cases e
  | d x =>
    obtain ⟨ρ', e2, e⟩ := Option.map_eq_some_iff.mp e
    cases e
    exact ht σ H _ ⟨φ, F, ρ, S, hl, hρ, .d x, S1, e1, fun φ' F' H' v s hl' r _ => ⟨φ', F', ρ, x, ρ', hρ.step s hl, r, e2, fun σ' hσ' _ => q φ' F' H' σ' s hl' hσ'⟩⟩
theorem of_own {r : Option ((PV × Bool) × Store)} {pv : PV} {S' : Store} (h : own r = some (pv, S')) : ∃ xs S1, r = some ((.d (.list xs), true), S1) ∧ pv = .r S1.length ∧ S' = S1 ++ [.lst xs] := by
  unfold own at h
  obtain ⟨⟨⟨v, b⟩, S1⟩, e1, h⟩ := Option.bind_eq_some_iff.mp h
  match v, b, e1, h with
  | .d (.list xs), true, e1, h => cases h; exact ⟨xs, S1, e1, rfl, rfl⟩
  | .d (.list xs), false, e1, h => cases h
  | .d .none, _, e1, h => cases h
  | .d (.int _), _, e1, h => cases h
  | .d (.bool _), _, e1, h => cases h
  | .d (.str _), _, e1, h => cases h
  | .d (.tuple _), _, e1, h => cases h
  | .d (.dict _), _, e1, h => cases h
  | .r n, _, e1, h => cases h
/-- a new list, now the frame's -/
theorem own_st {K : Fg} {φ φ1 : Phi} {F F1 : FS} {H H1 : Hp} {S1 : Store} {xs : List PyData} {v : V} (st : Stp φ F H φ1 F1 H1) (hl : Rl K φ1 F1 S1 H1) (nl : NewL K φ1 F1 S1 H H1 xs v) :
    ∃ φ2 F2, Stp φ F H φ2 F2 H1 ∧ Rl K φ2 F2 (S1 ++ [.lst xs]) H1 ∧ RP K φ2 F2 H1 (.r S1.length) v := by
  obtain ⟨a, rfl, st2, hl2⟩ := nl.own hl st
  exact ⟨_, _, st2, hl2, (a, none), by rw [← hl.len]; simp, rfl⟩
theorem s_alloc {s : Stmt} {i : Nat} {c : CE} {t : TE} (h : PS X s (tAsg t (gName i))) (ht : ∀ σ H Q, tN X.K P c σ H Q → t σ H Q) : PS X s (tX1 X.K P n0 (.alloc i c)) := PS.imp h fun D σ H h => by
  obtain ⟨φb, Fb, Hb, Sb, φ, F, ρ, S, hb, hn, st, hl, hρ, fl, e, q⟩ := h
  rw [sx] at e
  obtain ⟨⟨pv, S1⟩, e1, e⟩ := Option.map_eq_some_iff.mp e
  cases e
  obtain ⟨xs, S2, e2, rfl, rfl⟩ := of_own e1
  refine ht σ H _ ⟨φ, F, ρ, S, hl, hρ, _, _, S2, e2, fun φ' F' H' v s hl' r nl => ?_⟩
  obtain ⟨φ2, F2, st2, hl2, r2⟩ := own_st s hl' (nl rfl xs rfl)
  exact q φ2 F2 H' _ st2 hl2 ((hρ.step st2 hl).set i r2)
/-- several values, some of them new lists -/
def tNs (K : Fg) (P : Prm) (es : List (Bool × CE)) : TA := fun σ H Q => ∃ φ F ρ S, Rl K φ F S H ∧ Re K φ F H ρ σ ∧ ∃ pvs S', evns P es ρ S = some (pvs, S') ∧
  ∀ φ' F' H' vs, Stp φ F H φ' F' H' → Rl K φ' F' S' H' → RPs K φ' F' H' pvs vs → Q vs H'
theorem r_nsnil : PA X [] (tNs X.K P []) := PA.imp pa_nil fun σ H Q h => by
  obtain ⟨φ, F, ρ, S, hl, hρ, pvs, S', e, q⟩ := h
  rw [evns] at e
  cases e
  exact q φ F H [] Stp.refl hl (by unfold RPs; rfl)
theorem r_nscons {a : Expr} {es : List Expr} {ca : CE} {ces : List (Bool × CE)} (hs : nst a = true) (ha : PE X a (tE X.K P ca)) (hr : PA X es (tNs X.K P ces)) : PA X (a :: es) (tNs X.K P ((false, ca) :: ces)) := by
  refine PA.imp (pa_cons ha hr (nst_ok hs _ _)) fun σ H Q h => ?_
  obtain ⟨φ, F, ρ, S, hl, hρ, pvs, S', e, q⟩ := h
  rw [evns] at e
  obtain ⟨⟨pa, S1⟩, e1, e⟩ := Option.bind_eq_some_iff.mp e
  obtain ⟨⟨ps, S2⟩, e2, e⟩ := Option.map_eq_some_iff.mp e
  cases e
  refine ⟨φ, F, ρ, S, hl, hρ, pa, S1, e1, fun φ1 F1 H1 v st1 hl1 r1 _ => ?_⟩
  refine ⟨φ1, F1, ρ, S1, hl1, hρ.step st1 hl, ps, S2, e2, fun φ2 F2 H2 vs st2 hl2 r2 => ?_⟩
  exact q φ2 F2 H2 _ (st1.trans st2) hl2 (rps_cons (r1.step st2 hl1) r2)
theorem r_nsnew {a : Expr} {es : List Expr} {ca : CE} {ces : List (Bool × CE)} (hs : nst a = true) (ha : PE X a (tN X.K P ca)) (hr : PA X es (tNs X.K P ces)) : PA X (a :: es) (tNs X.K P ((true, ca) :: ces)) := by
  refine PA.imp (pa_cons ha hr (nst_ok hs _ _)) fun σ H Q h => ?_
  obtain ⟨φ, F, ρ, S, hl, hρ, pvs, S', e, q⟩ := h
  rw [evns] at e
  obtain ⟨⟨pa, S1⟩, e1, e⟩ := Option.bind_eq_some_iff.mp e
  obtain ⟨⟨ps, S2⟩, e2, e⟩ := Option.map_eq_some_iff.mp e
  cases e
  obtain ⟨xs, S3, e3, rfl, rfl⟩ := of_own e1
  refine ⟨φ, F, ρ, S, hl, hρ, _, _, S3, e3, fun φ' F' H1 v s hl' r nl => ?_⟩
  obtain ⟨φ1, F1, st1, hl1, r1⟩ := own_st s hl' (nl rfl xs rfl)
  refine ⟨φ1, F1, ρ, _, hl1, hρ.step st1 hl, ps, S2, e2, fun φ2 F2 H2 vs st2 hl2 r2 => ?_⟩
  exact q φ2 F2 H2 _ (st1.trans st2) hl2 (rps_cons (r1.step st2 hl1) r2)
theorem s_par2 {s : Stmt} {i j : Nat} {es : List (Bool × CE)} {t : TA} (h : PS X s (tPar i j t)) (ht : ∀ σ H Q, tNs X.K P es σ H Q → t σ H Q) : PS X s (tX1 X.K P n0 (.par [i, j] es)) := PS.imp h fun D σ H h => by
  obtain ⟨φb, Fb, Hb, Sb, φ, F, ρ, S, hb, hn, st, hl, hρ, fl, e, q⟩ := h
  rw [sx] at e
  obtain ⟨⟨pvs, S1⟩, e1, e⟩ := Option.bind_eq_some_iff.mp e
  obtain ⟨ρ', e2, e⟩ := Option.map_eq_some_iff.mp e
  cases e
  refine ht σ H _ ⟨φ, F, ρ, S, hl, hρ, pvs, S1, e1, fun φ' F' H' vs s hl' r => ?_⟩
  match pvs, e2, r with
  | [p1, p2], e2, r =>
    obtain ⟨v, w, rfl, r1, r2⟩ := rps2 r
    simp only [setAll, Option.some.injEq] at e2
    subst e2
    exact ⟨v, w, rfl, q φ' F' H' _ s hl' (((hρ.step s hl).set i r1).set j r2)⟩
  | [], e2, r => simp [setAll] at e2
  | [_], e2, r => simp [setAll] at e2
  | _ :: _ :: _ :: _, e2, r => simp [setAll] at e2
/-- two names at least one of which is a cell: by a tuple -/
theorem s_parT {s : Stmt} {i j : Nat} {es : List (Bool × CE)} {t : TA} (h : PS X s (tAsg (tTup t) (gTup X.K 2 (gCons (gName i) (gCons (gName j) gNil))))) (ht : ∀ σ H Q, tNs X.K P es σ H Q → t σ H Q) : PS X s (tX1 X.K P n0 (.par [i, j] es)) := PS.imp h fun D σ H h => by
  obtain ⟨φb, Fb, Hb, Sb, φ, F, ρ, S, hb, hn, st, hl, hρ, fl, e, q⟩ := h
  rw [sx] at e
  obtain ⟨⟨pvs, S1⟩, e1, e⟩ := Option.bind_eq_some_iff.mp e
  obtain ⟨ρ', e2, e⟩ := Option.map_eq_some_iff.mp e
  cases e
  refine ht σ H _ ⟨φ, F, ρ, S, hl, hρ, pvs, S1, e1, fun φ' F' H' vs s hl' r => ?_⟩
  match pvs, e2, r with
  | [p1, p2], e2, r =>
    obtain ⟨v, w, rfl, r1, r2⟩ := rps2 r
    simp only [setAll, Option.some.injEq] at e2
    subst e2
    refine ⟨by show 2 ≤ sizeLine; decide, fun p hp => ⟨p, [v, w], rfl, .inl (.inl upd_same), rfl, v, [w], rfl, w, [], rfl, rfl, ?_⟩⟩
    have st2 : Stp φ F H φ' F' (upd H' p (.tup [v, w])) := s.trans (Stp.fresh hp)
    exact q φ' F' _ _ st2 (hl'.fresh hp) (((hρ.step st2 hl).set i (r1.step (Stp.fresh hp) hl')).set j (r2.step (Stp.fresh hp) hl'))
  | [], e2, r => simp [setAll] at e2
  | [_], e2, r => simp [setAll] at e2
  | _ :: _ :: _ :: _, e2, r => simp [setAll] at e2
theorem s_par3 {s : Stmt} {i j l : Nat} {es : List (Bool × CE)} {t : TA} (h : PS X s (tPar3 i j l t)) (ht : ∀ σ H Q, tNs X.K P es σ H Q → t σ H Q) : PS X s (tX1 X.K P n0 (.par [i, j, l] es)) := PS.imp h fun D σ H h => by
  obtain ⟨φb, Fb, Hb, Sb, φ, F, ρ, S, hb, hn, st, hl, hρ, fl, e, q⟩ := h
  rw [sx] at e
  obtain ⟨⟨pvs, S1⟩, e1, e⟩ := Option.bind_eq_some_iff.mp e
  obtain ⟨ρ', e2, e⟩ := Option.map_eq_some_iff.mp e
  cases e
  refine ht σ H _ ⟨φ, F, ρ, S, hl, hρ, pvs, S1, e1, fun φ' F' H' vs s hl' r => ?_⟩
  match pvs, e2, r with
  | [p1, p2, p3], e2, r =>
    unfold RPs at r
    obtain ⟨u, r0, rfl, r1, r⟩ := r
    obtain ⟨v, w, rfl, r2, r3⟩ := rps2 r
    simp only [setAll, Option.some.injEq] at e2
    subst e2
    exact ⟨u, v, w, rfl, q φ' F' H' _ s hl' ((((hρ.step s hl).set i r1).set j r2).set l r3)⟩
  | [], e2, r => simp [setAll] at e2
  | [_], e2, r => simp [setAll] at e2
  | [_, _], e2, r => simp [setAll] at e2
  | _ :: _ :: _ :: _ :: _, e2, r => simp [setAll] at e2
/-- name op= value, ints -/
def ipZ : BOp → TIp
  | .add => rI0 fun i j => .int (i + j)
  | .sub => rI0 fun i j => .int (i - j)
  | _ => fun _ _ _ _ => False
theorem pip_Z (op : BOp) : PIp X (opOf op) (ipZ op) := by
  intro pins s σ H x y v u Q I rx ry h
  cases op with
  | add => exact iop_add pins s σ H x y v u Q I rx ry h
  | sub => exact iop_sub pins s σ H x y v u Q I rx ry h
  | _ => exact h.elim
def augOk : BOp → Bool
  | .add => true
  | .sub => true
  | _ => false
theorem s_aug {i : Nat} {x : Str} {e : Expr} {c : CE} {op : BOp} {pos' : Pos} (ho : augOk op = true) (hN : X.N.Nodup) (hi : X.N[i]? = some x) (hx : Loc X.env.scope x) (he : PE X e (tE X.K P c)) (hf : X.fn x = true ∨ X.env.scope.names.lookup x = some .local) :
    PS X (.AugAssign (.Name x pos') (opOf op) e pos) (tX1 X.K P n0 (.aug i op c)) := PS.imp (ps_aug hN hi hx he (pip_Z op) hf) fun D σ H h => by
  obtain ⟨φb, Fb, Hb, Sb, φ, F, ρ, S, hb, hn, st, hl, hρ, fl, e, q⟩ := h
  rw [sx] at e
  obtain ⟨⟨z, S1⟩, e1, e⟩ := Option.map_eq_some_iff.mp e
  cases e
  obtain ⟨pv, S0, qv, y, w, e2, e3, e4, e5, e6⟩ := of_op2 e1
  obtain ⟨pv0, e7, e2⟩ := Option.map_eq_some_iff.mp e2
  cases e2
  have e7 : ρ[i]? = some (some pv) := by
    cases h : ρ[i]? with
    | none => rw [h] at e7; simp at e7
    | some o => rw [h] at e7; simp at e7; rw [e7]
  obtain ⟨v, e8, r⟩ := hρ.get i pv e7
  refine ⟨v, e8, φ, F, ρ, S, hl, hρ, qv, S1, e3, fun φ' F' H' u s hl' r2 _ => ?_⟩
  cases y with
  | int a =>
    cases w with
    | int b =>
      have ea : v = .int a := (VD.deref hl' (r.step s hl) e4).intD rfl
      have eb : u = .int b := (VD.deref hl' r2 e5).intD rfl
      subst ea eb
      have fin : ∀ k : Int, z = .int k → D.nx (σ.set i (some (.int k))) H' := fun k ek => by
        subst ek
        exact q φ' F' H' _ s hl' ((hρ.step s hl).set i (rp_int k))
      cases op with
      | add => simp only [binD, Option.some.injEq] at e6; exact ⟨a, b, rfl, rfl, fin _ e6.symm⟩
      | sub => simp only [binD, Option.some.injEq] at e6; exact ⟨a, b, rfl, rfl, fin _ e6.symm⟩
      | _ => simp [augOk] at ho
    | _ => simp at e6
  | _ => simp at e6
/-- o[i] = value -/
theorem s_set {o i v : Expr} {co ci cv : CE} {tpos : Pos} (hv : PE X v (tE X.K P cv)) (ho : PE X o (tE X.K P co)) (hi : PE X i (tE X.K P ci))
    (ha : ∀ v, assign (.Subscript o i tpos) X.env v = (do
      let ov ← holding [v] (eval o X.env)
      let iv ← holding [v, ov] (eval i X.env)
      standAt tpos
      holding [v, ov, iv] (setItem ov iv v)
      release [v, ov, iv] []))
    (hs : swapsWithSole [.Subscript o i tpos] v pos.line X.env = pure false) (hw : swappedStores [.Subscript o i tpos] v X.env = pure none) :
    PS X (.Assign [.Subscript o i tpos] v pos) (tX1 X.K P n0 (.setIx co ci cv)) := PS.imp (ps_asg hv (pg_sub ho hi set_list ha) hs hw rfl) fun D σ H h => by
  obtain ⟨φb, Fb, Hb, Sb, φ, F, ρ, S, hb, hn, st, hl, hρ, fl, e, q⟩ := h
  rw [sx] at e
  obtain ⟨⟨x, S1⟩, e1, e⟩ := Option.bind_eq_some_iff.mp e
  obtain ⟨⟨pv, S2⟩, e2, e⟩ := Option.bind_eq_some_iff.mp e
  cases pv with
  | d _ => cases e
  | r n =>
    simp only at e
    obtain ⟨⟨k, S3⟩, e3, e⟩ := Option.bind_eq_some_iff.mp e
    simp only at e e2
    cases hS : S3[n]? with
    | none => simp [hS] at e
    | some u =>
      cases u with
      | src _ _ _ _ => simp [hS] at e
      | lst xs =>
        simp only [hS] at e
        obtain ⟨j, e4, e⟩ := Option.map_eq_some_iff.mp e
        cases e
        obtain ⟨pi, xi, e5, e6, e7⟩ := of_op1 e3
        refine ⟨φ, F, ρ, S, hl, hρ, _, S1, of_dt e1, fun φ1 F1 H1 w st1 hl1 r1 _ => ?_⟩
        refine ⟨φ1, F1, ρ, S1, hl1, hρ.step st1 hl, _, S2, e2, fun φ2 F2 H2 o st2 hl2 r2 _ => ?_⟩
        refine ⟨φ2, F2, ρ, S2, hl2, hρ.step (st1.trans st2) hl, pi, S3, e5, fun φ3 F3 H3 iv st3 hl3 r3 _ => ?_⟩
        have ei : iv = .int k := (VD.deref hl3 r3 e6).intD e7
        subst ei
        obtain ⟨p, hp, rfl⟩ := r2.step st3 hl2
        obtain ⟨p', vs, hp', hp2, hH, hr⟩ := hl3.lst hS
        rw [hp] at hp'
        cases hp'
        refine ⟨p.1, vs, k, j, rfl, rfl, hH, ?_, ?_⟩
        · rw [← hr.length]; exact e4
        · have stw : Stp φ3 F3 H3 φ3 F3 (upd H3 p.1 (.lst (vs.set j w))) := Stp.write hp
          have r1' : RD X.K F3 H3 x w := (show RP X.K φ3 F3 H3 (.d x) w from (r1.step st2 hl1).step st3 hl2)
          have hlw := hl3.write hp hp2 (List.getElem?_eq_some_iff.mp hS).1 (hr.set j r1')
          exact q φ3 F3 _ σ (((st1.trans st2).trans st3).trans stw) hlw (hρ.step (((st1.trans st2).trans st3).trans stw) hl)
theorem s_if {c : Expr} {a b : List Stmt} {cc : CE} {ca cb : List CS} (hc : PT X c (tT X.K P cc)) (ha : PSs X a (tX X.K P n0 ca)) (hb : PSs X b (tX X.K P n0 cb)) : PS X (.If c a b pos) (tX1 X.K P n0 (.sif cc ca cb)) :=
  PS.imp (ps_if hc ha hb) fun D σ H h => by
    obtain ⟨φb, Fb, Hb, Sb, φ, F, ρ, S, hb, hn, st, hl, hρ, fl, e, q⟩ := h
    rw [sx] at e
    obtain ⟨⟨k, S1⟩, e1, e⟩ := Option.bind_eq_some_iff.mp e
    refine ⟨φ, F, ρ, S, hl, hρ, k, S1, e1, fun φ1 F1 H1 st1 hl1 => ?_⟩
    cases k with
    | true =>
      simp only [if_true] at e ⊢
      exact ⟨φb, Fb, Hb, Sb, φ1, F1, ρ, S1, hb, hn, st.trans st1, hl1, hρ.step st1 hl, fl, e, q.later st1⟩
    | false =>
      simp only [Bool.false_eq_true, if_false] at e ⊢
      exact ⟨φb, Fb, Hb, Sb, φ1, F1, ρ, S1, hb, hn, st.trans st1, hl1, hρ.step st1 hl, fl, e, q.later st1⟩
theorem s_for {tg iter : Expr} {body : List Stmt} {p : Pat} {ci : CE} {cb : List CS} (hp : PassesOwn (model X.prog X.w) X.A X.env X.xe) (hc : X.calm = true) (hi : PI X tg iter (tI X.K P ci)) (hg : PG X tg (tG X.K p)) (hbody : PSs X body (tX X.K P n0 cb)) (hs : ∀ x, foldedSetIterable iter X.env x = pure x) :
    PS X (.For tg iter body [] pos) (tX1 X.K P n0 (.sfor p ci cb)) := PS.imp (ps_for hp hc hi hg hbody hs) fun D σ H h => by
  obtain ⟨φb, Fb, Hb, Sb, φ, F, ρ, S, hb, hn, st, hl, hρ, fl, e, q⟩ := h
  rw [sx] at e
  obtain ⟨⟨⟨xs, g⟩, S1⟩, e1, e⟩ := Option.bind_eq_some_iff.mp e
  simp only at e
  refine ⟨φ, F, ρ, S, hl, hρ, xs, g, S1, e1, fun J φ1 F1 H1 st1 hl1 iof => ?_⟩
  obtain ⟨f, hf⟩ : ∃ f, f = (fun (y : PyData) (ρ : Ev) (S : Store) => (bd p y ρ).bind fun ρ1 => sxs P n0 cb ρ1 S) := ⟨_, rfl⟩
  rw [← hf] at e
  refine ⟨fun i m σ' H' => m = xs.length - i ∧ i ≤ xs.length ∧ ∃ φ2 F2 ρ2 S2, Stp φ1 F1 H1 φ2 F2 H' ∧ Rl X.K φ2 F2 S2 H' ∧ Re X.K φ2 F2 H' ρ2 σ' ∧ forL g f (xs.drop i) ρ2 S2 = some fl,
    ⟨xs.length, by simp, Nat.zero_le _, φ1, F1, ρ, S1, Stp.refl, hl1, hρ.step st1 hl, e⟩, ?_⟩
  rintro i m σ' H' ⟨rfl, hile, φ2, F2, ρ2, S2, st2, hl2, hρ2, e2⟩
  by_cases hlt : i < xs.length
  · right
    have hx : xs[i]? = some xs[i] := List.getElem?_eq_getElem hlt
    generalize hxi : xs[i] = x at hx
    have hdrop : xs.drop i = x :: xs.drop (i + 1) := by rw [← hxi]; exact List.drop_eq_getElem_cons hlt
    rw [hdrop] at e2
    unfold forL at e2
    split at e2
    case isFalse => cases e2
    rename_i hg2
    obtain ⟨f1, e3, e2⟩ := Option.bind_eq_some_iff.mp e2
    obtain ⟨go, yl⟩ := (iof φ2 F2 S2 H' st2 hl2 hg2).1 i x hx
    refine ⟨go, fun σ'' H'' => ∃ φ3 F3 ρ3 S3, Stp φ1 F1 H1 φ3 F3 H'' ∧ Rl X.K φ3 F3 S3 H'' ∧ Re X.K φ3 F3 H'' ρ3 σ'' ∧ forL g f (xs.drop (i + 1)) ρ3 S3 = some fl, fun σ'' H'' h => ?_, fun v H'' y => ?_⟩
    · exact ⟨xs.length - (i + 1), by omega, rfl, hlt, h⟩
    · obtain ⟨sty, hly, ry⟩ := yl v H'' y
      rw [hf] at e3
      obtain ⟨ρ3, e4, e5⟩ := Option.bind_eq_some_iff.mp e3
      have st3 := st2.trans sty
      refine ⟨φ2, F2, ρ2, x, ρ3, hρ2.step sty hl2, ry, e4, fun σ3 hρ3 _ => ?_⟩
      refine ⟨φb, Fb, Hb, Sb, φ2, F2, ρ3, S2, hb, hn, (st.trans st1).trans st3, hly, hρ3, f1, e5, ?_⟩
      cases f1 with
      | nx ρ4 S4 => exact fun φ' F' H4 σ4 st4 hl4 hρ4 => ⟨φ', F', ρ4, S4, st3.trans st4, hl4, hρ4, e2⟩
      | ct ρ4 S4 => exact fun φ' F' H4 σ4 st4 hl4 hρ4 => ⟨φ', F', ρ4, S4, st3.trans st4, hl4, hρ4, e2⟩
      | bk ρ4 S4 =>
        cases e2
        exact fun φ' F' H4 σ4 st4 hl4 hρ4 => q φ' F' H4 σ4 ((st1.trans st3).trans st4) hl4 hρ4
      | rt x nw S4 =>
        cases e2
        exact q
  · left
    have hie : i = xs.length := by omega
    subst hie
    rw [List.drop_length] at e2
    unfold forL at e2
    split at e2
    case isFalse => cases e2
    rename_i hg2
    cases e2
    exact ⟨(iof φ2 F2 S2 H' st2 hl2 hg2).2 _ (Nat.le_refl _), q φ2 F2 H' σ' (st1.trans st2) hl2 hρ2⟩
theorem s_while {c : Expr} {body : List Stmt} {cc : CE} {cb : List CS} (hp : PassesOwn (model X.prog X.w) X.A X.env X.xe) (hc : PT X c (tT X.K P cc)) (hbody : PSs X body (tX X.K P n0 cb)) : PS X (.While c body [] pos) (tX1 X.K P n0 (.swhile cc cb)) :=
  PS.imp (ps_while hp hc hbody) fun D σ H h => by
  obtain ⟨φb, Fb, Hb, Sb, φ, F, ρ, S, hb, hn, st, hl, hρ, fl, e, q⟩ := h
  rw [sx] at e
  obtain ⟨n, e⟩ := of_loop e
  refine ⟨fun m σ' H' => ∃ φ2 F2 ρ2 S2, Stp φ F H φ2 F2 H' ∧ Rl X.K φ2 F2 S2 H' ∧ Re X.K φ2 F2 H' ρ2 σ' ∧ iter _ m (ρ2, S2) = some fl, ⟨n, φ, F, ρ, S, Stp.refl, hl, hρ, e⟩, ?_⟩
  rintro m σ' H' ⟨φ2, F2, ρ2, S2, st2, hl2, hρ2, e2⟩
  cases m with
  | zero => simp [iter] at e2
  | succ m =>
    unfold iter at e2
    split at e2
    · cases e2
    · rename_i f1 e3
      cases e2
      obtain ⟨⟨k, S3⟩, e4, e5⟩ := Option.bind_eq_some_iff.mp e3
      refine ⟨φ2, F2, ρ2, S2, hl2, hρ2, k, S3, e4, fun φ3 F3 H3 st3 hl3 => ?_⟩
      cases k with
      | true =>
        simp only [if_true] at e5 ⊢
        obtain ⟨f2, e6, e7⟩ := Option.map_eq_some_iff.mp e5
        refine ⟨fun _ _ => False, fun _ _ h => h.elim, φb, Fb, Hb, Sb, φ3, F3, ρ2, S3, hb, hn, (st.trans st2).trans st3, hl3, hρ2.step st3 hl2, f2, e6, ?_⟩
        cases f2 with
        | nx ρ4 S4 => cases e7
        | ct ρ4 S4 => cases e7
        | bk ρ4 S4 => cases e7; exact fun φ' F' H4 σ4 st4 hl4 hρ4 => q φ' F' H4 σ4 ((st2.trans st3).trans st4) hl4 hρ4
        | rt x nw S4 => cases e7; exact q
      | false =>
        simp only [Bool.false_eq_true, if_false] at e5 ⊢
        cases e5
        exact q φ3 F3 H3 σ' (st2.trans st3) hl3 (hρ2.step st3 hl2)
    · rename_i a1 e3
      obtain ⟨⟨k, S3⟩, e4, e5⟩ := Option.bind_eq_some_iff.mp e3
      refine ⟨φ2, F2, ρ2, S2, hl2, hρ2, k, S3, e4, fun φ3 F3 H3 st3 hl3 => ?_⟩
      cases k with
      | true =>
        simp only [if_true] at e5 ⊢
        obtain ⟨f2, e6, e7⟩ := Option.map_eq_some_iff.mp e5
        refine ⟨fun σ4 H4 => ∃ φ4 F4, Stp φ F H φ4 F4 H4 ∧ Rl X.K φ4 F4 a1.2 H4 ∧ Re X.K φ4 F4 H4 a1.1 σ4, fun σ4 H4 h => ?_, φb, Fb, Hb, Sb, φ3, F3, ρ2, S3, hb, hn, (st.trans st2).trans st3, hl3, hρ2.step st3 hl2, f2, e6, ?_⟩
        · obtain ⟨φ4, F4, z1, z2, z3⟩ := h
          exact ⟨m, Nat.lt_succ_self m, φ4, F4, a1.1, a1.2, z1, z2, z3, e2⟩
        · cases f2 with
          | nx ρ4 S4 => cases e7; exact fun φ' F' H4 σ4 st4 hl4 hρ4 => ⟨φ', F', (st2.trans st3).trans st4, hl4, hρ4⟩
          | ct ρ4 S4 => cases e7; exact fun φ' F' H4 σ4 st4 hl4 hρ4 => ⟨φ', F', (st2.trans st3).trans st4, hl4, hρ4⟩
          | bk ρ4 S4 => cases e7
          | rt x nw S4 => cases e7
      | false =>
        simp only [Bool.false_eq_true, if_false] at e5
        cases e5
end
end Cr

/-! ## CrJ -/
set_option Elab.async false
set_option linter.all false
set_option autoImplicit false
set_option maxRecDepth 100000
set_option maxHeartbeats 4000000
/-! CrJ: return, and a def. -/
namespace Cr
open PySem PySem.Spec L2
open PyProof.Rows (envOfC)

section
variable {K : Fg} {φ φb : Phi} {F Fb : FS} {H Hb : Hp} {S Sb : Store} {n0 : Nat}
theorem settle (hb : Rl K φb Fb Sb Hb) (hn : φb.length = n0) (st : Stp φb Fb Hb φ F H) (hl : Rl K φ F S H) : Stp φb Fb Hb φb Fb H ∧ Rl K φb Fb (S.take n0) H ∧ (S.take n0).length = n0 := by
  obtain ⟨ψ, e, nψ⟩ := st.more
  have hlen : (S.take n0).length = n0 := by
    rw [List.length_take, ← hl.len, e, List.length_append, hn]
    omega
  refine ⟨⟨⟨[], by simp, by simp [ads]⟩, fun _ h => h, fun _ h n => absurd h n, st.keep, st.dom⟩, ⟨by rw [hlen, hn], hb.nd, hb.inF, fun a h => st.dom a (hb.dom a h), fun i o q => ?_⟩, hlen⟩
  have hi : i < n0 := by
    have := (List.getElem?_eq_some_iff.mp q).1
    omega
  rw [List.getElem?_take_of_lt hi] at q
  obtain ⟨p, e1, r⟩ := hl.obj i o q
  rw [e, List.getElem?_append_left (by omega)] at e1
  exact ⟨p, e1, r.less fun a h => st.fF a h⟩
/-- a list of the frame's own, at the end of the frame -/
theorem own_new (hb : Rl K φb Fb Sb Hb) (hn : φb.length = n0) (st : Stp φb Fb Hb φ F H) (hl : Rl K φ F S H) {n : Nat} {xs : List PyData} {p : Addr × Option Addr} (h0 : ¬ n < n0) (hS : S[n]? = some (.lst xs)) (hp : φ[n]? = some p) :
    RD K Fb H (.list xs) (.ref p.1) ∧ NewL K φb Fb (S.take n0) Hb H xs (.ref p.1) := by
  obtain ⟨ψ, e, nψ⟩ := st.more
  obtain ⟨p', vs, hp', h2, hH, hr⟩ := hl.lst hS
  rw [hp] at hp'
  cases hp'
  have hψ : ψ[n - φb.length]? = some p := by
    rw [e, List.getElem?_append_right (by omega)] at hp
    exact hp
  have hnone : Hb p.1 = none := nψ _ (mem_ads (List.mem_of_getElem? hψ))
  have hnF : ¬ Fb p.1 := fun h => hb.dom _ h hnone
  have hF : F p.1 := hl.inF _ (mem_ads (List.mem_of_getElem? hp))
  have sub : ∀ b, Fb b ∨ b = p.1 → F b := fun b h => by
    rcases h with h | rfl
    · exact st.fF b h
    · exact hF
  obtain ⟨st', hl', hlen⟩ := settle hb hn st hl
  refine ⟨?_, p.1, vs, rfl, hnone, hnF, hH, ⟨hl'.len, hl'.nd, fun a h => .inl (hl'.inF a h), fun a h => hl.dom a (sub a h), fun i o q => ?_⟩, hr.less sub⟩
  · unfold RD
    exact ⟨p.1, vs, rfl, .inl ⟨hnF, .inl hH⟩, hr.less st.fF⟩
  · have hi : i < n0 := by
      have := (List.getElem?_eq_some_iff.mp q).1
      omega
    rw [List.getElem?_take_of_lt hi] at q
    obtain ⟨p1, e1, r⟩ := hl.obj i o q
    rw [e, List.getElem?_append_left (by omega)] at e1
    exact ⟨p1, e1, r.less sub⟩
theorem frz_re (hb : Rl K φb Fb Sb Hb) (hn : φb.length = n0) (st : Stp φb Fb Hb φ F H) (hl : Rl K φ F S H) {ρ : Ev} {σ : L2.St} (hρ : Re K φ F H ρ σ) : Re K φb Fb H (frz n0 ρ S) σ := by
  obtain ⟨ψ, e, nψ⟩ := st.more
  refine ⟨by unfold frz; rw [List.length_map]; exact hρ.len, fun i pv q => ?_⟩
  unfold frz at q
  rw [List.getElem?_map] at q
  obtain ⟨o, e1, e2⟩ := Option.map_eq_some_iff.mp q
  cases o with
  | none => simp [frzV] at e2
  | some w =>
    obtain ⟨v, e3, r⟩ := hρ.get i w e1
    refine ⟨v, e3, ?_⟩
    cases w with
    | d x =>
      simp only [frzV, Option.some.injEq] at e2
      subst e2
      exact RD.less (fun a h => st.fF a h) r
    | r n =>
      obtain ⟨p, hp, rfl⟩ := r
      simp only [frzV] at e2
      split at e2
      · rename_i hlt
        cases e2
        rw [e, List.getElem?_append_left (by omega)] at hp
        exact ⟨p, hp, rfl⟩
      · rename_i hlt
        split at e2
        · rename_i xs hS
          cases e2
          exact (own_new hb hn st hl hlt hS hp).1
        · cases e2
end
section
variable {X : Cx} {P : Prm} {n0 : Nat} {pos : Pos}
def notVar : CE → Bool
  | .var _ => false
  | _ => true
theorem sx_ret {c : CE} (h : notVar c = true) (ρ : Ev) (S : Store) : sx P n0 (.ret c) ρ S = (evn P c (frz n0 ρ S) (S.take n0)).bind fun r => match r.1.1 with
      | .d x => if r.2.length = n0 then some (.rt x r.1.2 r.2) else none
      | _ => none := by
  cases c <;> first | rfl | (simp [notVar] at h)
theorem s_ret {e : Expr} {c : CE} (hv : notVar c = true) (he : PE X e (tN X.K P c)) : PS X (.Return (some e) pos) (tX1 X.K P n0 (.ret c)) := PS.imp (ps_ret he) fun D σ H h => by
  obtain ⟨φb, Fb, Hb, Sb, φ, F, ρ, S, hb, hn, st, hl, hρ, fl, e, q⟩ := h
  rw [sx_ret hv] at e
  obtain ⟨⟨⟨pv, nw⟩, S1⟩, e1, e⟩ := Option.bind_eq_some_iff.mp e
  cases pv with
  | r n => cases e
  | d x =>
    simp only at e
    split at e
    case isFalse => cases e
    rename_i hlen
    cases e
    obtain ⟨st0, hl0, _⟩ := settle hb hn st hl
    refine ⟨φb, Fb, frz n0 ρ S, S.take n0, hl0, frz_re hb hn st hl hρ, .d x, nw, S1, e1, fun φ' F' H' v s hl' r nl => ?_⟩
    obtain ⟨ψ, eφ, nψ⟩ := s.more
    have hψ : ψ = [] := by
      have h1 := hl'.len
      rw [eφ, List.length_append, hlen, hn] at h1
      exact List.length_eq_zero_iff.mp (by omega)
    rw [hψ, List.append_nil] at eφ
    subst eφ
    have hl1 : Rl X.K φ' Fb S1 H' := hl'.fewer (fun a h => s.fF a h) hb.inF
    have st1 : Stp φ' Fb Hb φ' Fb H' := ⟨⟨[], by simp, by simp [ads]⟩, fun _ h => h, fun _ h n => absurd h n, fun a o hn h => s.keep a o hn (st0.keep a o hn h), fun a h => s.dom a (st0.dom a h)⟩
    refine q H' v st1 hl1 (RD.less (fun a h => s.fF a h) r) fun hnw xs ex => ?_
    subst ex
    obtain ⟨a, vs, rfl, h1, h2, h3, h4, h5⟩ := nl hnw xs rfl
    have sub : ∀ b, Fb b ∨ b = a → F' b ∨ b = a := fun b h => h.imp (fun h => s.fF b h) id
    refine ⟨a, vs, rfl, ?_, fun h => h2 (s.fF a h), h3, h4.fewer sub fun b h => .inl (hb.inF b h), h5.less sub⟩
    cases z : Hb a with
    | none => rfl
    | some o => exact absurd h1 (st0.dom a (by rw [z]; simp))
theorem s_retVar {e : Expr} {i : Nat} (he : PE X e (tE X.K P (.var i))) : PS X (.Return (some e) pos) (tX1 X.K P n0 (.ret (.var i))) := PS.imp (ps_ret he) fun D σ H h => by
  obtain ⟨φb, Fb, Hb, Sb, φ, F, ρ, S, hb, hn, st, hl, hρ, fl, e, q⟩ := h
  rw [sx] at e
  obtain ⟨pv, e1, e⟩ := Option.bind_eq_some_iff.mp e
  have ee : ev P (.var i) ρ S = some (pv, S) := by rw [ev, e1]; rfl
  refine ⟨φ, F, ρ, S, hl, hρ, pv, S, ee, fun φ' F' H' v s hl' r _ => ?_⟩
  have st1 := st.trans s
  obtain ⟨st0, hl0, _⟩ := settle hb hn st1 hl'
  cases pv with
  | d x =>
    cases e
    exact q H' v st0 hl0 (RD.less (fun a h => st1.fF a h) r) (fun h => nomatch h)
  | r n =>
    simp only at e
    split at e
    case isTrue => cases e
    rename_i hlt
    obtain ⟨x, e2, e⟩ := Option.map_eq_some_iff.mp e
    cases e
    obtain ⟨xs, hS, rfl⟩ := deref_r e2
    obtain ⟨p, hp, rfl⟩ := r
    obtain ⟨h1, h2⟩ := own_new hb hn st1 hl' hlt hS hp
    exact q H' _ st0 hl0 h1 fun _ ys ey => by cases ey; exact h2
end
theorem RPs.length {K : Fg} {φ : Phi} {F : FS} {H : Hp} : ∀ {args : List PV} {vs : List V}, RPs K φ F H args vs → args.length = vs.length
  | [], _, h => by unfold RPs at h; rw [h]; rfl
  | a :: args, _, h => by
    unfold RPs at h
    obtain ⟨v, r, rfl, _, h⟩ := h
    rw [List.length_cons, List.length_cons, RPs.length h]
theorem start_re {K : Fg} {φ : Phi} {F : FS} {H : Hp} {N : List Str} {args : List PV} {vs : List V} (h : RPs K φ F H args vs) {n : Nat} (hn : n = N.length - args.length) : Re K φ F H (args.map some ++ List.replicate n none) (L2.start N vs) := by
  have hl := h.length
  refine ⟨by unfold L2.start; simp [hn, hl], fun i pv e => ?_⟩
  have hi : i < args.length := by
    by_cases hi : i < args.length
    · exact hi
    · rw [List.getElem?_append_right (by simpa using hi), List.getElem?_replicate] at e
      split at e <;> cases e
  rw [List.getElem?_append_left (by simpa using hi), List.getElem?_map] at e
  obtain ⟨o, e1, e2⟩ := Option.map_eq_some_iff.mp e
  cases e2
  have get : ∀ {args : List PV} {vs : List V} {i : Nat}, RPs K φ F H args vs → args[i]? = some pv → ∃ v, vs[i]? = some v ∧ RP K φ F H pv v := by
    intro args
    induction args with
    | nil => intro vs i _ h; simp at h
    | cons a args ih =>
      intro vs i h e
      unfold RPs at h
      obtain ⟨v, r, rfl, h1, h2⟩ := h
      cases i with
      | zero => simp at e; subst e; exact ⟨v, rfl, h1⟩
      | succ i =>
        simp at e
        obtain ⟨w, e1, r1⟩ := ih h2 e
        exact ⟨w, by simpa using e1, r1⟩
  obtain ⟨v, e3, r⟩ := get h e1
  refine ⟨v, ?_, r⟩
  unfold L2.start
  rw [List.getElem?_append_left (by simp; omega), List.getElem?_map, e3]
  rfl
section
variable {pr : Program} {w : World} {K : Fg} {mg : Str → Option Value} {base : Heap}
theorem spC_len {C : Orc} {f n : Nat} (h : ∀ args S r, C f args S = some r → args.length = n) : ∀ vs H Q E, spC K C f vs H Q E → vs.length = n := by
  rintro vs H Q E ⟨φ, F, S, args, r, hl, hr, e, q⟩
  rw [← hr.length]
  exact h args S r e
/-- a def by its body -/
theorem fnok_step {x qual : Str} {st : Stmt} {f : Addr} {fd : FuncData} {N ps : List Str} {k i d : Nat} {prm : Orc} {pg : Pg} {refs : Nat → Option Nat} {css : List CS} (Fn : Fun K x qual st f fd) (sc : FnScope N ps (defScope st))
    (hpg : pg i = some ⟨ps.length, N.length, css⟩)
    (hbody : ∀ (cdv : Value) (A : Around) (outer : List Env) (s : Shared) (H : Hp) (E : XK) (n0 : Nat), A.guards = some [] → Room k (A.deeper (envOfC qual (defScope st) s.heap.objs.size f cdv)) →
      PSs (cxOf CX0 pr w K mg base N qual (defScope st) f cdv A outer s H E).nox (defBody st) (tX K ⟨refs, orc prm pg refs d⟩ n0 css)) :
    FnG pr w K mg base (k + 1) f fd ps (spC K (orc prm pg refs (d + 1)) i) := by
  have hrun : ∀ args S r, orc prm pg refs (d + 1) i args S = some r → runFn ⟨refs, orc prm pg refs d⟩ ⟨ps.length, N.length, css⟩ args S = some r := fun args S r e => by
    unfold orc at e
    rw [hpg] at e
    exact e
  refine fng_of Fn sc (spC_len fun args S r e => ?_) fun cdv A outer s H vs Q E gd hr hsp => ?_
  · have e := hrun args S r e
    unfold runFn at e
    split at e
    · assumption
    · cases e
  · obtain ⟨φ, F, S, args, r, hl, hrp, e, q⟩ := hsp
    have e := hrun args S r e
    unfold runFn at e
    split at e
    case isFalse => cases e
    rename_i hal
    obtain ⟨fl, e1, e⟩ := Option.bind_eq_some_iff.mp e
    refine ⟨_, hbody cdv A outer s H E S.length gd hr, φ, F, H, S, φ, F, _, S, hl, hl.len, Stp.refl, hl, start_re hrp (by rw [hal]), fl, e1, ?_⟩
    have keepAll : ∀ (φ' : Phi) (F' : FS) (H' : Hp) (S' : Store), Stp φ F H φ' F' H' → Rl K φ' F' S' H' → Stp φ F H φ F H' ∧ Rl K φ F (S'.take S.length) H' := fun φ' F' H' S' s hl' => by
      obtain ⟨h1, h2, _⟩ := settle hl hl.len s hl'
      exact ⟨h1, h2⟩
    cases fl with
    | rt x nw S1 => cases e; exact q
    | nx ρ S1 =>
      cases e
      intro φ' F' H' σ s hl' _
      obtain ⟨h1, h2⟩ := keepAll φ' F' H' S1 s hl'
      exact q H' .non h1 h2 RD.none (fun h => nomatch h)
    | bk ρ S1 => cases e
    | ct ρ S1 => cases e
/-- at depth 0 nothing is promised -/
theorem fnok_zero {x qual : Str} {st : Stmt} {f : Addr} {fd : FuncData} {N ps : List Str} {i : Nat} {prm : Orc} {pg : Pg} {refs : Nat → Option Nat} (Fn : Fun K x qual st f fd) (sc : FnScope N ps (defScope st)) :
    FnG pr w K mg base 1 f fd ps (spC K (orc prm pg refs 0) i) := by
  refine fng_of (k := 0) Fn sc (fun vs H Q E h => ?_) fun cdv A outer s H vs Q E gd hr hsp => ?_
  · obtain ⟨φ, F, S, args, r, hl, hrp, e, q⟩ := h
    exact nomatch (show none = some r from e)
  · obtain ⟨φ, F, S, args, r, hl, hrp, e, q⟩ := hsp
    exact nomatch (show none = some r from e)
end
end Cr

/-! ## CrK -/
set_option Elab.async false
set_option linter.all false
set_option autoImplicit false
set_option maxRecDepth 100000
set_option maxHeartbeats 4000000
/-! CrK: from the program's text to the core language: expressions. -/
namespace Cr
open PySem PySem.Spec L2

/-- what a frame's translation goes by: its names, the defs, the names that hold lists of the frame's own -/
structure Tab where
  N : List Str
  fns : List (Str × Nat)
  muts : List Nat
  opn : Str

def ixOf : List Str → Str → Option Nat
  | [], _ => none
  | y :: ys, x => if y = x then some 0 else (ixOf ys x).map (· + 1)
theorem ixOf_ok : ∀ {N : List Str} {x : Str} {i : Nat}, ixOf N x = some i → N[i]? = some x
  | [], _, _, h => by simp [ixOf] at h
  | y :: ys, x, i, h => by
    unfold ixOf at h
    split at h
    · rename_i e; cases h; simp [e]
    · obtain ⟨j, e, rfl⟩ := Option.map_eq_some_iff.mp h
      simpa using ixOf_ok e
def kd (sc : Scope) (x : Str) : Option NameKind := sc.names.lookup x
def globB (sc : Scope) (x : Str) : Bool := decide (kd sc x = some .globalImplicit)
def visB (sc : Scope) (x : Str) : Bool := decide (kd sc x = some .local) || decide (kd sc x = some .cell) || decide (kd sc x = some .free)
def locB (sc : Scope) (x : Str) : Bool := decide (kd sc x = some .local) || decide (kd sc x = some .cell)
def okN (x : Str) : Bool := !(x == ("__debug__" : Str)) && !(x == ("__classdict__" : Str))
def mapO {α β : Type} (f : α → Option β) : List α → Option (List β)
  | [] => some []
  | x :: xs => (f x).bind fun y => (mapO f xs).map (y :: ·)
def bopOf : Operator → Option BOp
  | .Add => some .add
  | .Sub => some .sub
  | .Mult => some .mul
  | .FloorDiv => some .fdiv
  | .Mod => some .mod
  | _ => none
theorem bopOf_ok {o : Operator} {b : BOp} (h : bopOf o = some b) : o = opOf b := by
  cases o <;> simp [bopOf] at h <;> subst h <;> rfl
def copOf : CmpOp → Option COp
  | .Eq => some .eq
  | .NotEq => some .ne
  | .Lt => some .lt
  | .LtE => some .le
  | .Gt => some .gt
  | .GtE => some .ge
  | .Is => some .isN
  | .IsNot => some .notN
  | .In => some .isin
  | .NotIn => some .notin
theorem copOf_ok {o : CmpOp} {b : COp} (h : copOf o = some b) : o = cmpOf b := by
  cases o <;> simp [copOf] at h <;> subst h <;> rfl
def bfs : List Bf := [.len, .abs, .int, .bool, .mx, .mn, .any, .all, .tuple, .list, .sum, .repr]
def bfOf (x : Str) : Option Bf := bfs.find? fun b => decide (bfN b = x)
theorem bfOf_ok {x : Str} {b : Bf} (h : bfOf x = some b) : bfN b = x ∧ isi b = false ∧ b ≠ .keys := by
  refine ⟨by have := List.find?_some h; simpa using this, ?_⟩
  have := List.mem_of_find?_eq_some h
  have q : ∀ b ∈ bfs, isi b = false ∧ b ≠ .keys := by decide
  exact q b this
def isiOf (x : Str) : Option Bf := [Bf.isInt, Bf.isBool, Bf.isTup, Bf.isList].find? fun b => decide (bfN (isiF b) = x)
theorem isiOf_ok {x : Str} {b : Bf} (h : isiOf x = some b) : bfN (isiF b) = x ∧ isi b = true := by
  refine ⟨by have := List.find?_some h; simpa using this, ?_⟩
  have := List.mem_of_find?_eq_some h
  have q : ∀ b ∈ [Bf.isInt, Bf.isBool, Bf.isTup, Bf.isList], isi b = true := by decide
  exact q b this
def mtOf (m : Str) (n : Nat) : Option Mt := if m = "append" ∧ n = 1 then some .append else if m = "insert" ∧ n = 2 then some .insert else if m = "pop" ∧ n = 1 then some .popAt else if m = "remove" ∧ n = 1 then some .remove else none
theorem mtOf_ok {m : Str} {n : Nat} {k : Mt} (h : mtOf m n = some k) : m = mtN k ∧ (k = .append ∨ k = .insert ∨ k = .popAt ∨ k = .remove) := by
  unfold mtOf at h
  split at h
  · rename_i e; cases h; exact ⟨e.1, .inl rfl⟩
  · split at h
    · rename_i e; cases h; exact ⟨e.1, .inr (.inl rfl)⟩
    · split at h
      · rename_i e; cases h; exact ⟨e.1, .inr (.inr (.inl rfl))⟩
      · split at h
        · rename_i e; cases h; exact ⟨e.1, .inr (.inr (.inr rfl))⟩
        · cases h
/-- what a method may be asked of -/
def baseOk : Expr → Bool
  | .Name _ _ => true
  | .Subscript _ _ _ => true
  | _ => false
def notNo : CE → Bool
  | .no => false
  | _ => true
def isTup : Expr → Bool
  | .Tuple _ _ _ => true
  | _ => false
def subC (xs ys : List Nat) : Bool := xs.all fun i => decide (i ∈ ys)
/-- a target -/
def trG : Nat → List Str → Scope → Expr → Option Pat
  | 0, _, _, _ => none
  | n + 1, N, sc, e => match e with
    | .Name x _ => if locB sc x then (ixOf N x).map .nm else none
    | .Tuple es _ _ => if es.all nst then (mapO (trG n N sc) es).map .tup else none
    | _ => none
/-- the own names of a comprehension's block -/
def ownOf (N : List Str) : List (Str × NameKind) → List (Str × Nat)
  | [] => []
  | (x, k) :: r => if k = .local ∨ k = .cell then (match ixOf N x with
    | some i => (x, i) :: ownOf N r
    | none => ownOf N r) else ownOf N r
def trO (f : Expr → Option CE) : Option Expr → Option CE
  | none => some CE.no
  | some e => (f e).bind fun c => if notNo c then some c else none
def trStar (f : Expr → Option CE) (e : Expr) : Option CE := match e with
  | .Starred a _ => (f a).map CE.star
  | e => (f e).bind fun c => if nstC c then some c else none
def trPl (f : Expr → Option CE) (e : Expr) : Option CE := (f e).bind fun c => if plainIt c then some c else none
def trIt (f : Expr → Option CE) (T : Tab) (sc : Scope) (tg it : Expr) : Option CE := match it with
  | .Call (.Name x _) args [] _ => if globB sc x && (T.fns.lookup x).isNone && args.all nst then (match args with
    | [a] => if x = "range" then (f a).map fun c => CE.rng (.cst (.int 0)) c else if x = "enumerate" ∧ isTup tg = true then (f a).map CE.enm else trPl f it
    | [a, b] => if x = "range" then (f a).bind fun c => (f b).map fun d => CE.rng c d else if x = "zip" ∧ isTup tg = true then (f a).bind fun c => (f b).map fun d => CE.zip c d else trPl f it
    | [a, b, d] => if x = "zip" ∧ isTup tg = true then (f a).bind fun c => (f b).bind fun e => (f d).map fun g => CE.zip3 c e g else trPl f it
    | _ => trPl f it) else trPl f it
  | it => trPl f it
def trIfs (f : Expr → Option CE) : List Expr → Option (List CE)
  | [] => some []
  | [c] => (f c).map fun c => [c]
  | _ => none
def trIsi (f : Expr → Option CE) (T : Tab) (sc : Scope) (args : List Expr) : Option CE := match args with
  | [a, .Name t _] => if globB sc t && (T.fns.lookup t).isNone then (isiOf t).bind fun b => (f a).map fun c => CE.bf b [c] else none
  | _ => none
/-- dict(e) -/
def dictArg (T : Tab) (sc : Scope) : Expr → Option Expr
  | .Call (.Name x _) [a] [] _ => if x = "dict" ∧ globB sc x = true ∧ (T.fns.lookup x).isNone = true ∧ nst a = true then some a else none
  | _ => none
/-- list(dict(e)) -/
def trKeys (f : Expr → Option CE) (T : Tab) (sc : Scope) (x : Str) (args : List Expr) : Option (Option CE) := match args with
  | [a] => if x = "list" then (dictArg T sc a).map fun b => (f b).map fun c => .bf .keys [c] else none
  | _ => none
def trCall (f : Expr → Option CE) (T : Tab) (sc : Scope) (x : Str) (args : List Expr) : Option CE := if !args.isEmpty && args.all nst && globB sc x && okN x then (match T.fns.lookup x with
  | some i => (mapO f args).map (CE.call i)
  | none => if x = "isinstance" then trIsi f T sc args else if (trKeys f T sc x args).isSome = true then (trKeys f T sc x args).join else (bfOf x).bind fun b => (mapO f args).map (CE.bf b)) else none
def trMet (f : Expr → Option CE) (o : Expr) (m : Str) (args : List Expr) : Option CE := match args with
  | [] => if m = "pop" then (f o).map fun co => CE.met .pop co [] else none
  | a :: as => if m = "index" then (if as.isEmpty && nst a then (f o).bind fun co => (f a).bind fun c => if nstC c then some (CE.met .index co [c]) else none else none) else if (a :: as).all nst then (mtOf m (a :: as).length).bind fun k => (f o).bind fun co => (mapO f (a :: as)).bind fun cs => if cs.all nstC then some (CE.met k co cs) else none else none
def trE : Nat → Tab → Scope → Expr → Option CE
  | 0, _, _, _ => none
  | n + 1, T, sc, e => match e with
    | .Name x _ => if visB sc x && okN x then (ixOf T.N x).map .var else none
    | .Constant k _ _ => (cstOf k).map .cst
    | .BinOp a op b _ => (bopOf op).bind fun o => (trE n T sc a).bind fun ca => (trE n T sc b).map fun cb => .bin o ca cb
    | .UnaryOp op a _ => match op with
      | .USub => (trE n T sc a).map .neg
      | .Not => (trE n T sc a).map .not
      | _ => none
    | .BoolOp op es p => match es with
      | [] => none
      | [a] => trE n T sc a
      | a :: b :: rest => (trE n T sc a).bind fun ca => (trE n T sc (.BoolOp op (b :: rest) p)).map fun cb => match op with
        | .And => .and ca cb
        | .Or => .or ca cb
    | .Compare a ops bs _ => match ops, bs with
      | [o], [b] => if noSet b then (copOf o).bind fun k => (trE n T sc a).bind fun ca => (trE n T sc b).map fun cb => .cmp k ca cb else none
      | [o1, o2], [b, c] => if noSet c then (copOf o1).bind fun k1 => (copOf o2).bind fun k2 => (trE n T sc a).bind fun ca => (trE n T sc b).bind fun cb => (trE n T sc c).map fun cc => .chain k1 k2 ca cb cc else none
      | _, _ => none
    | .IfExp c a b _ => (trE n T sc c).bind fun cc => (trE n T sc a).bind fun ca => (trE n T sc b).map fun cb => .ite cc ca cb
    | .Call f args kws p => match kws with
      | _ :: _ => none
      | [] => match f with
        | .Name x _ => trCall (trE n T sc) T sc x args
        | .Attribute o m apos => if baseOk o && (apos.endLine == p.line) && decide (args.length < 20) then trMet (trE n T sc) o m args else none
        | _ => none
    | .Subscript a s _ => match s with
      | .Slice lo hi st _ => match st with
        | none => (trE n T sc a).bind fun ca => (trO (trE n T sc) lo).bind fun cl => (trO (trE n T sc) hi).map fun ch => .sl ca cl ch
        | some _ => none
      | s => if plainIx s then (trE n T sc a).bind fun ca => (trE n T sc s).map fun cb => .ix ca cb else none
    | .Dict ks vs _ => if ks.isEmpty && vs.isEmpty then some (.cst (.dict [])) else none
    | .Tuple es _ _ => (mapO (trStar (trE n T sc)) es).map .tup
    | .List es _ => (mapO (trStar (trE n T sc)) es).map .lst
    | .ListComp elt gens scope _ => match gens with
      | [⟨tg, it, ifs, 0⟩] => if blkC T.N sc scope (ownOf T.N scope.names) && noSet it then
          (trG n T.N scope tg).bind fun p => if subC (pnames p) ((ownOf T.N scope.names).map fun y => y.2) then
            (trIt (trE n T sc) T sc tg it).bind fun ci => (trIfs (trE n T (relS scope sc)) ifs).bind fun cifs => (trE n T (relS scope sc) elt).map fun celt => .comp ((ownOf T.N scope.names).map fun y => y.2) p ci cifs celt else none else none
      | _ => none
    | _ => none

/-- the promise of the laws' opener: a new dict, its list of cells -/
def spOpen (K : Fg) : Sp := fun vs H Q _ => ∃ (a : Addr) (is : List Int), vs = [.ref a] ∧ SqL K H a (is.map V.int) ∧ is.length ≤ 1000 ∧
  ∀ (H' : Hp) (d c : Addr), (∀ b o, H b = some o → H' b = some o) → H d = none → H c = none → d ≠ c → H' d = some (.dK (srcKeys c 1 (stir is) 0)) → H' c = some (.lst ((is.map fun c => if c < 0 then -c else c).map V.int).reverse) → Q (.ref d) H'
structure OpAt (X : Cx) (x : Str) : Prop where
  ok : ∃ k addr fd ps, FnOk X.prog X.w X.K X.mg X.base CX0 k addr fd ps (spOpen X.K) ∧ Room k X.A ∧ X.mg x = some (.ref addr) ∧ PySem.W.keepIn X.K (.ref addr) = true ∧ Binds X.K fd ps []
/-- the frame fits the table -/
structure Fit (T : Tab) (sc : Scope) (P : Prm) (X : Cx) : Prop where
  N : X.N = T.N
  nd : T.N.Nodup
  sc : X.env.scope = sc
  calm : X.calm = true
  units : X.A.units + 200 < cLine
  gd : X.A.guards = some []
  fns : ∀ x i, T.fns.lookup x = some i → FnAt X P.C i x
  bf : ∀ b, T.fns.lookup (bfN b) = none → X.mg (bfN b) = none
  rng : X.mg "range" = none
  enm : X.mg "enumerate" = none
  zip : X.mg "zip" = none
  dct : X.mg "dict" = none
  opn : OpAt X T.opn
/-- what the translation of an expression is -/
structure Ok (P : Prm) (X : Cx) (e : Expr) (c : CE) : Prop where
  pe : PE X e (tE X.K P c)
  pt : PT X e (tT X.K P c)
  pw : ∀ op es p, e = .BoolOp op es p → PW X e (tT X.K P c)
  pn : PE X e (tN X.K P c)
section
variable {T : Tab} {sc : Scope} {P : Prm} {X : Cx}
theorem Fit.gl (h : Fit T sc P X) {x : Str} (g : globB sc x = true) : Gl X x := by
  have g : sc.names.lookup x = some .globalImplicit := of_decide_eq_true g
  show X.env.scope.names.lookup x = some .globalImplicit
  rw [h.sc]; exact g
theorem Fit.vis (h : Fit T sc P X) {x : Str} (g : visB sc x = true) : Vis X.env.scope x := by
  unfold Vis
  rw [h.sc]
  unfold visB at g
  rw [Bool.or_eq_true, Bool.or_eq_true] at g
  rcases g with (g | g) | g
  · exact .inl (of_decide_eq_true g)
  · exact .inr (.inl (of_decide_eq_true g))
  · exact .inr (.inr (of_decide_eq_true g))
theorem okN_ok {x : Str} (h : okN x = true) : (x == ("__debug__" : Str)) = false ∧ (x == ("__classdict__" : Str)) = false := by
  simpa [okN] using h
theorem mapO_len {α β : Type} {f : α → Option β} : ∀ {xs : List α} {ys : List β}, mapO f xs = some ys → ys.length = xs.length
  | [], ys, h => by simp [mapO] at h; subst h; rfl
  | x :: xs, ys, h => by
    unfold mapO at h
    obtain ⟨y, e1, h⟩ := Option.bind_eq_some_iff.mp h
    obtain ⟨zs, e2, rfl⟩ := Option.map_eq_some_iff.mp h
    simp [mapO_len e2]
theorem pa_args {f : Expr → Option CE} (ih : ∀ e c, f e = some c → Ok P X e c) : ∀ {es : List Expr} {cs : List CE}, es.all nst = true → mapO f es = some cs → PA X es (tP X.K P cs)
  | [], cs, _, h => by simp [mapO] at h; subst h; exact r_pnil
  | e :: es, cs, hs, h => by
    rw [List.all_cons, Bool.and_eq_true] at hs
    unfold mapO at h
    obtain ⟨c, e1, h⟩ := Option.bind_eq_some_iff.mp h
    obtain ⟨cs', e2, rfl⟩ := Option.map_eq_some_iff.mp h
    exact r_pcons hs.1 (ih e c e1).pe (pa_args ih hs.2 e2)
theorem pa_items {f : Expr → Option CE} (ih : ∀ e c, f e = some c → Ok P X e c) : ∀ {es : List Expr} {cs : List CE}, es.all nst = true → cs.all nstC = true → mapO f es = some cs → PA X es (tS X.K P cs)
  | [], cs, _, _, h => by simp [mapO] at h; subst h; exact r_snil
  | e :: es, cs, hs, hc, h => by
    rw [List.all_cons, Bool.and_eq_true] at hs
    unfold mapO at h
    obtain ⟨c, e1, h⟩ := Option.bind_eq_some_iff.mp h
    obtain ⟨cs', e2, rfl⟩ := Option.map_eq_some_iff.mp h
    rw [List.all_cons, Bool.and_eq_true] at hc
    exact r_scons hs.1 hc.1 (ih e c e1).pe (pa_items ih hs.2 hc.2 e2)
theorem pa_stars {f : Expr → Option CE} (ih : ∀ e c, f e = some c → Ok P X e c) : ∀ {es : List Expr} {cs : List CE}, mapO (trStar f) es = some cs → PA X es (tS X.K P cs)
  | [], cs, h => by simp [mapO] at h; subst h; exact r_snil
  | e :: es, cs, h => by
    unfold mapO at h
    obtain ⟨c, e1, h⟩ := Option.bind_eq_some_iff.mp h
    obtain ⟨cs', e2, rfl⟩ := Option.map_eq_some_iff.mp h
    have plain : nst e = true → ((f e).bind fun c => if nstC c then some c else none) = some c → PA X (e :: es) (tS X.K P (c :: cs')) := fun hs e3 => by
      obtain ⟨c1, e4, e3⟩ := Option.bind_eq_some_iff.mp e3
      split at e3
      · rename_i hn
        cases e3
        exact r_scons hs hn (ih e _ e4).pe (pa_stars ih e2)
      · cases e3
    cases e with
    | Starred a p =>
      obtain ⟨ca, e3, rfl⟩ := Option.map_eq_some_iff.mp (show (f a).map CE.star = some c from e1)
      exact r_star (ih a ca e3).pe (pa_stars ih e2)
    | _ => exact plain rfl e1
/-- an expression that is tested by its value -/
def plainT : Expr → Bool
  | .UnaryOp .Not _ _ => false
  | .BoolOp _ _ _ => false
  | .IfExp _ _ _ _ => false
  | .Compare _ _ _ _ => false
  | _ => true
theorem ok_plain' {e : Expr} {c : CE} (hp : plainT e = true) (h : PE X e (tE X.K P c)) (hn : PE X e (tN X.K P c)) : Ok P X e c := by
  refine ⟨h, r_tru h fun whole => ?_, fun op es p e1 => ?_, hn⟩
  · cases e with
    | UnaryOp op a p => cases op <;> first | rfl | (simp [plainT] at hp)
    | BoolOp _ _ _ => simp [plainT] at hp
    | IfExp _ _ _ _ => simp [plainT] at hp
    | Compare _ _ _ _ => simp [plainT] at hp
    | _ => rfl
  · subst e1
    simp [plainT] at hp
theorem ok_plain {e : Expr} {c : CE} (hp : plainT e = true) (h : PE X e (tE X.K P c)) (hn : notCall c = true := by rfl) : Ok P X e c := ok_plain' hp h (r_n hn h)
theorem base_ok {o : Expr} {m : Str} {env : Env} (h : baseOk o = true) : attributeBase o m env (eval o env) = eval o env := by
  cases o <;> first | rfl | (simp [baseOk] at h)
end
end Cr

/-! ## CrL -/
set_option Elab.async false
set_option linter.all false
set_option autoImplicit false
set_option maxRecDepth 100000
set_option maxHeartbeats 4000000
/-! CrL: the translation of expressions is right. -/
namespace Cr
open PySem PySem.Spec L2

section
variable {T : Tab} {sc : Scope} {P : Prm} {X : Cx}
/-- names that a target may be -/
def TgOk (X : Cx) (raw : Scope) : Prop := ∀ x, locB raw x = true → Loc X.env.scope x ∧ (X.fn x = true ∨ X.env.scope.names.lookup x = some .local)
theorem trG_ok {N : List Str} {raw : Scope} (hN : X.N = N) (nd : N.Nodup) (hc : X.calm = true) (tg : TgOk X raw) : ∀ (n : Nat) {e : Expr} {p : Pat}, trG n N raw e = some p → PG X e (tG X.K p)
  | 0, _, _, h => by simp [trG] at h
  | n + 1, e, p, h => by
    have ih := @trG_ok N raw hN nd hc tg n
    cases e with
    | Name x pos =>
      simp only [trG] at h
      split at h
      · rename_i hl
        obtain ⟨i, e1, rfl⟩ := Option.map_eq_some_iff.mp h
        obtain ⟨h1, h2⟩ := tg x hl
        exact g_name (by rw [hN]; exact nd) (by rw [hN]; exact ixOf_ok e1) h1 h2
      · cases h
    | Tuple es k pos =>
      simp only [trG] at h
      split at h
      · rename_i hs
        obtain ⟨ps, e1, rfl⟩ := Option.map_eq_some_iff.mp h
        have all : ∀ {es : List Expr} {ps : List Pat}, es.all nst = true → mapO (trG n N raw) es = some ps → PGs X es (tGs X.K ps) := by
          intro es
          induction es with
          | nil => intro ps _ h; simp [mapO] at h; subst h; exact gs_nil
          | cons e es ih2 =>
            intro ps hs h
            rw [List.all_cons, Bool.and_eq_true] at hs
            unfold mapO at h
            obtain ⟨p, e1, h⟩ := Option.bind_eq_some_iff.mp h
            obtain ⟨ps', e2, rfl⟩ := Option.map_eq_some_iff.mp h
            exact gs_cons hs.1 (ih e1) (ih2 hs.2 e2)
        exact g_tup hc hs (mapO_len e1) (all hs e1)
      · cases h
    | _ => simp [trG] at h
theorem plain_it {f : Expr → Option CE} (ih : ∀ e c, f e = some c → Ok P X e c) {tg it : Expr} {ci : CE} (h : trPl f it = some ci) : PI X tg it (tI X.K P ci) := by
  unfold trPl at h
  obtain ⟨c, e1, h⟩ := Option.bind_eq_some_iff.mp h
  split at h
  · rename_i hp
    cases h
    exact r_iv hp (ih it _ e1).pe
  · cases h
theorem trIt_ok (F : Fit T sc P X) {f : Expr → Option CE} (ih : ∀ e c, f e = some c → Ok P X e c) {tg it : Expr} {ci : CE} (h : trIt f T sc tg it = some ci) : PI X tg it (tI X.K P ci) := by
  unfold trIt at h
  split at h
  · rename_i x p1 args p2
    split at h
    · rename_i hc
      simp only [Bool.and_eq_true] at hc
      obtain ⟨⟨g, _⟩, hs⟩ := hc
      split at h
      · rename_i a
        have hsa : nst a = true := by simpa using hs
        split at h
        · rename_i hx
          subst hx
          obtain ⟨c, e1, rfl⟩ := Option.map_eq_some_iff.mp h
          exact r_rng1 (F.gl g) F.rng hsa (ih a c e1).pe
        · split at h
          · rename_i hx
            obtain ⟨hx, ht⟩ := hx
            subst hx
            obtain ⟨c, e1, rfl⟩ := Option.map_eq_some_iff.mp h
            cases tg with
            | Tuple es k tp => exact r_enm (F.gl g) F.enm hsa (ih a c e1).pe
            | _ => simp [isTup] at ht
          · exact plain_it ih h
      · rename_i a b
        have hsa : nst a = true ∧ nst b = true := by simpa using hs
        split at h
        · rename_i hx
          subst hx
          obtain ⟨c, e1, h⟩ := Option.bind_eq_some_iff.mp h
          obtain ⟨d, e2, rfl⟩ := Option.map_eq_some_iff.mp h
          exact r_rng2 (F.gl g) F.rng hsa.1 hsa.2 (ih a c e1).pe (ih b d e2).pe
        · split at h
          · rename_i hx
            obtain ⟨hx, ht⟩ := hx
            subst hx
            obtain ⟨c, e1, h⟩ := Option.bind_eq_some_iff.mp h
            obtain ⟨d, e2, rfl⟩ := Option.map_eq_some_iff.mp h
            cases tg with
            | Tuple es k tp => exact r_zip (F.gl g) F.zip hsa.1 hsa.2 (ih a c e1).pe (ih b d e2).pe
            | _ => simp [isTup] at ht
          · exact plain_it ih h
      · rename_i a b d
        have hsa : nst a = true ∧ nst b = true ∧ nst d = true := by simpa using hs
        split at h
        · rename_i hx
          obtain ⟨hx, ht⟩ := hx
          subst hx
          obtain ⟨c, e1, h⟩ := Option.bind_eq_some_iff.mp h
          obtain ⟨c2, e2, h⟩ := Option.bind_eq_some_iff.mp h
          obtain ⟨c3, e3, rfl⟩ := Option.map_eq_some_iff.mp h
          cases tg with
          | Tuple es k tp => exact r_zip3 (F.gl g) F.zip hsa.1 hsa.2.1 hsa.2.2 (ih a c e1).pe (ih b c2 e2).pe (ih d c3 e3).pe
          | _ => simp [isTup] at ht
        · exact plain_it ih h
      · exact plain_it ih h
    · exact plain_it ih h
  · exact plain_it ih h
theorem trO_ok {f : Expr → Option CE} (ih : ∀ e c, f e = some c → Ok P X e c) {o : Option Expr} {c : CE} (h : trO f o = some c) : L2.PO X o (tO X.K P c) := by
  cases o with
  | none => simp [trO] at h; subst h; exact r_no
  | some e =>
    unfold trO at h
    obtain ⟨c1, e1, h⟩ := Option.bind_eq_some_iff.mp h
    split at h
    · rename_i hn
      cases h
      exact r_part (ih e _ e1).pe (fun z => by rw [z] at hn; simp [notNo] at hn)
    · cases h
theorem trCall_ok (F : Fit T sc P X) {f : Expr → Option CE} (ih : ∀ e c, f e = some c → Ok P X e c) {x : Str} {args : List Expr} {c : CE} {p pos : Pos} (h : trCall f T sc x args = some c) : PE X (.Call (.Name x p) args [] pos) (tE X.K P c) ∧ PE X (.Call (.Name x p) args [] pos) (tN X.K P c) := by
  unfold trCall at h
  split at h
  · rename_i hc
    simp only [Bool.and_eq_true, Bool.not_eq_true'] at hc
    obtain ⟨⟨⟨h0, hs⟩, g⟩, ho⟩ := hc
    cases args with
    | nil => simp at h0
    | cons a as =>
      split at h
      · rename_i i hl
        obtain ⟨cs, e1, rfl⟩ := Option.map_eq_some_iff.mp h
        exact ⟨r_call (F.fns x i hl) (F.gl g) (okN_ok ho).1 hs (pa_args ih hs e1), r_nCall (F.fns x i hl) (F.gl g) (okN_ok ho).1 hs (pa_args ih hs e1)⟩
      · rename_i hl
        split at h
        · rename_i hx
          subst hx
          obtain ⟨b, ce, a0, t, p2, ea, rfl, hb, hg2, hl2, e1⟩ : ∃ (b : Bf) (ce : CE) (a0 : Expr) (t : Str) (p2 : Pos), a :: as = [a0, .Name t p2] ∧ c = .bf b [ce] ∧ isiOf t = some b ∧ globB sc t = true ∧ T.fns.lookup t = none ∧ f a0 = some ce := by
            unfold trIsi at h
            split at h
            · rename_i a0 t p2 ea
              split at h
              · rename_i hg
                rw [Bool.and_eq_true] at hg
                obtain ⟨b, hb, h⟩ := Option.bind_eq_some_iff.mp h
                obtain ⟨ce, e1, rfl⟩ := Option.map_eq_some_iff.mp h
                exact ⟨b, ce, a0, t, p2, ea, rfl, hb, hg.1, by simpa using hg.2, e1⟩
              · cases h
            · cases h
          obtain ⟨ht, hi⟩ := isiOf_ok hb
          subst ht
          rw [ea] at hs ⊢
          have hs1 : nst a0 = true := by rw [List.all_cons, Bool.and_eq_true] at hs; exact hs.1
          have hn : bfN b = "isinstance" := by cases b <;> simp [isi] at hi <;> rfl
          have h1 : PE X (.Call (.Name "isinstance" p) [a0, .Name (bfN (isiF b)) p2] [] pos) (tE X.K P (.bf b [ce])) := r_isi hi (F.gl g) (by rw [← hn]; exact F.bf b (by rw [hn]; exact hl)) (F.gl hg2) (F.bf _ hl2) hs1 (ih a0 ce e1).pe
          exact ⟨h1, r_n rfl h1⟩
        · split at h
          · rename_i hk
            obtain ⟨a0, p2, pos2, ce, hx, ea, ec, hg2, hs2, e1⟩ : ∃ (a0 : Expr) (p2 pos2 : Pos) (ce : CE), x = "list" ∧ a :: as = [.Call (.Name "dict" p2) [a0] [] pos2] ∧ c = .bf .keys [ce] ∧ globB sc "dict" = true ∧ nst a0 = true ∧ f a0 = some ce := by
              have has : as = [] := by
                cases as with
                | nil => rfl
                | cons y ys => simp [trKeys] at hk
              subst has
              simp only [trKeys] at h hk
              by_cases hx : x = "list"
              · rw [if_pos hx] at h hk
                obtain ⟨b, eb⟩ : ∃ b, dictArg T sc a = some b := by
                  cases hd : dictArg T sc a with
                  | none => rw [hd] at hk; simp at hk
                  | some b => exact ⟨b, rfl⟩
                rw [eb] at h
                obtain ⟨ce, e1, e2⟩ := Option.map_eq_some_iff.mp (show (f b).map (fun c => CE.bf Bf.keys [c]) = some c from h)
                unfold dictArg at eb
                split at eb
                · rename_i x2 p2 a0 pos2
                  split at eb
                  · rename_i hc
                    cases eb
                    obtain ⟨rfl, hg2, hl2, hs2⟩ := hc
                    exact ⟨_, p2, pos2, ce, hx, rfl, e2.symm, hg2, hs2, e1⟩
                  · cases eb
                · cases eb
              · rw [if_neg hx] at h
                simp at h
            subst hx ec
            rw [ea]
            have h1 := r_keys (pos := pos) F.units F.calm (p := p) (p2 := p2) (pos2 := pos2) (F.gl g) (F.bf .list hl) (F.gl hg2) F.dct hs2 (ih a0 ce e1).pe
            exact ⟨h1, r_n rfl h1⟩
          obtain ⟨b, e0, h⟩ := Option.bind_eq_some_iff.mp h
          obtain ⟨cs, e1, rfl⟩ := Option.map_eq_some_iff.mp h
          obtain ⟨hx, hi, hk⟩ := bfOf_ok e0
          subst hx
          have h1 : PE X (.Call (.Name (bfN b) p) (a :: as) [] pos) (tE X.K P (.bf b cs)) := r_bf F.gd F.units hi hk F.calm (F.gl g) (F.bf b hl) hs (pa_args ih hs e1)
          exact ⟨h1, r_n rfl h1⟩
  · cases h
theorem trMet_ok (F : Fit T sc P X) {f : Expr → Option CE} (ih : ∀ e c, f e = some c → Ok P X e c) {o : Expr} {m : Str} {args : List Expr} {c : CE} {apos pos : Pos} (hb : baseOk o = true) (hl : (apos.endLine == pos.line) = true) (hz : args.length < 20) (h : trMet f o m args = some c) :
    PE X (.Call (.Attribute o m apos) args [] pos) (tE X.K P c) ∧ notCall c = true := by
  cases args with
  | nil =>
    simp only [trMet] at h
    split at h
    · rename_i hm
      subst hm
      obtain ⟨co, e1, rfl⟩ := Option.map_eq_some_iff.mp h
      exact ⟨r_met0 F.units (ih o co e1).pe (base_ok hb) hl, rfl⟩
    · cases h
  | cons a as =>
    simp only [trMet] at h
    split at h
    · rename_i hm
      subst hm
      split at h
      · rename_i hc
        rw [Bool.and_eq_true] at hc
        have has : as = [] := by simpa using hc.1
        subst has
        obtain ⟨co, e1, h⟩ := Option.bind_eq_some_iff.mp h
        obtain ⟨ca, e2, h⟩ := Option.bind_eq_some_iff.mp h
        split at h
        · rename_i hcs
          cases h
          exact ⟨r_idx F.units (ih o co e1).pe (pa_items ih (by simp [hc.2]) (cs := [ca]) (by simp [hcs]) (by simp [mapO, e2])) (base_ok hb) hc.2 hl, rfl⟩
        · cases h
      · cases h
    split at h
    · rename_i hs
      obtain ⟨k, e0, h1⟩ := Option.bind_eq_some_iff.mp h
      clear h
      obtain ⟨hm, hk⟩ := mtOf_ok e0
      subst hm
      obtain ⟨co, e1, h2⟩ := Option.bind_eq_some_iff.mp h1
      obtain ⟨cs, e2, h3⟩ := Option.bind_eq_some_iff.mp h2
      split at h3
      · rename_i hcs
        cases h3
        exact ⟨r_met F.units hk (ih o co e1).pe (pa_items ih hs hcs e2) (base_ok hb) hs hz hl, rfl⟩
      · cases h3
    · cases h
theorem relS_look {scope s : Scope} {x : Str} {k : NameKind} (hk : k ≠ .free) (h : scope.names.lookup x = some k) : (relS scope s).names.lookup x = some k := by
  show List.lookup x (scope.names.map fun (n, k) => if (k == .free && s.kind == .function && s.names.lookup n == some .cell) then (n, .cell) else (n, k)) = some k
  generalize scope.names = l at h ⊢
  induction l with
  | nil => cases h
  | cons y l ih =>
    obtain ⟨n, k1⟩ := y
    by_cases hx : x = n
    · subst hx
      simp only [List.lookup_cons, beq_self_eq_true] at h
      have hk1 : k1 = k := by simpa using h
      have hc : ¬ (k1 == NameKind.free && s.kind == .function && s.names.lookup x == some .cell) = true := by
        intro z
        simp only [Bool.and_eq_true] at z
        exact hk (by rw [← hk1]; exact eq_of_beq z.1.1)
      rw [List.map_cons]
      show List.lookup x ((if (k1 == NameKind.free && s.kind == .function && s.names.lookup x == some .cell) = true then (x, NameKind.cell) else (x, k1)) :: _) = some k
      rw [if_neg hc, List.lookup_cons, beq_self_eq_true, hk1]
    · have hb : (x == n) = false := by simpa using hx
      rw [List.lookup_cons, hb] at h
      rw [List.map_cons]
      have ih := ih h
      show List.lookup x ((if (k1 == NameKind.free && s.kind == .function && s.names.lookup n == some .cell) = true then (n, NameKind.cell) else (n, k1)) :: _) = some k
      split
      · rw [List.lookup_cons, hb]; exact ih
      · rw [List.lookup_cons, hb]; exact ih
theorem Fit.blk (F : Fit T sc P X) (s : Shared) (H : Hp) (scope : Scope) (C : Addr) (cl : List (Str × Addr)) (fp : List Addr) : Fit T (relS scope sc) P (X.blk s H scope (compEnvC scope cl C X.env) fp) :=
  ⟨F.N, F.nd, by rw [← F.sc]; rfl, F.calm, F.units, F.gd, fun x i h => ⟨F.gd, (F.fns x i h).ok⟩, F.bf, F.rng, F.enm, F.zip, F.dct, ⟨F.opn.ok⟩⟩
theorem blk_tg (F : Fit T sc P X) (s : Shared) (H : Hp) (scope : Scope) (C : Addr) (cl : List (Str × Addr)) (fp : List Addr) : TgOk (X.blk s H scope (compEnvC scope cl C X.env) fp) scope := by
  intro x h
  have hs : (X.blk s H scope (compEnvC scope cl C X.env) fp).env.scope = relS scope X.env.scope := rfl
  unfold locB at h
  rw [Bool.or_eq_true] at h
  rcases h with h | h
  · have h : scope.names.lookup x = some .local := of_decide_eq_true h
    have h1 : (X.blk s H scope (compEnvC scope cl C X.env) fp).env.scope.names.lookup x = some .local := by rw [hs]; exact relS_look (by simp) h
    exact ⟨.inl h1, .inr h1⟩
  · have h : scope.names.lookup x = some .cell := of_decide_eq_true h
    have h1 : (X.blk s H scope (compEnvC scope cl C X.env) fp).env.scope.names.lookup x = some .cell := by rw [hs]; exact relS_look (by simp) h
    exact ⟨.inr h1, .inl (by show (scope.names.lookup x == some NameKind.cell) = true; rw [h]; rfl)⟩
theorem set_pure {it : Expr} {env : Env} (h : noSet it = true) : ∀ x, foldedSetIterable it env x = pure x := by
  intro x
  cases it <;> first | rfl | (simp [noSet] at h)
end
theorem trE_ok : ∀ (n : Nat) {T : Tab} {sc : Scope} {P : Prm} {X : Cx} {e : Expr} {c : CE}, Fit T sc P X → trE n T sc e = some c → Ok P X e c
  | 0, _, _, _, _, _, _, _, h => by simp [trE] at h
  | n + 1, T, sc, P, X, e, c, F, h => by
    have ih : ∀ e c, trE n T sc e = some c → Ok P X e c := fun e c h => trE_ok n F h
    cases e with
    | Name x pos =>
      simp only [trE] at h
      split at h
      · rename_i hv
        rw [Bool.and_eq_true] at hv
        obtain ⟨i, e1, rfl⟩ := Option.map_eq_some_iff.mp h
        exact ok_plain rfl (r_var (by rw [F.N]; exact ixOf_ok e1) (F.vis hv.1) (okN_ok hv.2).1 (okN_ok hv.2).2)
      · cases h
    | Constant k j pos =>
      simp only [trE] at h
      obtain ⟨x, e1, rfl⟩ := Option.map_eq_some_iff.mp h
      exact ok_plain rfl (r_cst e1)
    | BinOp a op b pos =>
      simp only [trE] at h
      obtain ⟨o, e0, h⟩ := Option.bind_eq_some_iff.mp h
      obtain ⟨ca, e1, h⟩ := Option.bind_eq_some_iff.mp h
      obtain ⟨cb, e2, rfl⟩ := Option.map_eq_some_iff.mp h
      rw [bopOf_ok e0]
      exact ok_plain rfl (r_bin (ih a ca e1).pe (ih b cb e2).pe)
    | Dict ks vs pos =>
      simp only [trE] at h
      split at h
      · rename_i hc
        rw [Bool.and_eq_true] at hc
        have h1 : ks = [] := by simpa using hc.1
        have h2 : vs = [] := by simpa using hc.2
        subst h1 h2
        cases h
        exact ok_plain rfl r_dct
      · cases h
    | UnaryOp op a pos =>
      cases op with
      | USub =>
        simp only [trE] at h
        obtain ⟨ca, e1, rfl⟩ := Option.map_eq_some_iff.mp h
        exact ok_plain rfl (r_neg (ih a ca e1).pe)
      | Not =>
        simp only [trE] at h
        obtain ⟨ca, e1, rfl⟩ := Option.map_eq_some_iff.mp h
        exact ⟨r_not (ih a ca e1).pe, r_notT (ih a ca e1).pt, fun _ _ _ e => (nomatch e), r_n rfl (r_not (ih a ca e1).pe)⟩
      | _ => simp [trE] at h
    | BoolOp op es p =>
      cases es with
      | nil => simp [trE] at h
      | cons a es =>
        cases es with
        | nil =>
          simp only [trE] at h
          have o := ih a c h
          have w : PW X (.BoolOp op [a] p) (tT X.K P c) := by
            cases op with
            | And => exact pw_and1 o.pt
            | Or => exact pw_or1 o.pt
          exact ⟨pe_one o.pe, w.pt, fun _ _ _ e => (by cases e; exact w), pe_one o.pn⟩
        | cons b rest =>
          simp only [trE] at h
          obtain ⟨ca, e1, h⟩ := Option.bind_eq_some_iff.mp h
          obtain ⟨cb, e2, rfl⟩ := Option.map_eq_some_iff.mp h
          have oa := ih a ca e1
          have ob := ih _ cb e2
          cases op with
          | And =>
            have w := r_andT (pos := p) oa.pt (ob.pw _ _ _ rfl)
            exact ⟨r_and oa.pe ob.pe, w.pt, fun _ _ _ e => (by cases e; exact w), r_n rfl (r_and oa.pe ob.pe)⟩
          | Or =>
            have w := r_orT (pos := p) oa.pt (ob.pw _ _ _ rfl)
            exact ⟨r_or oa.pe ob.pe, w.pt, fun _ _ _ e => (by cases e; exact w), r_n rfl (r_or oa.pe ob.pe)⟩
    | Compare a ops bs pos =>
      simp only [trE] at h
      split at h
      · rename_i o b
        split at h
        · rename_i hs
          obtain ⟨k, e0, h⟩ := Option.bind_eq_some_iff.mp h
          obtain ⟨ca, e1, h⟩ := Option.bind_eq_some_iff.mp h
          obtain ⟨cb, e2, rfl⟩ := Option.map_eq_some_iff.mp h
          rw [copOf_ok e0]
          exact ⟨r_cmp F.units hs (ih a ca e1).pe (ih b cb e2).pe, r_cmpT F.units hs (ih a ca e1).pe (ih b cb e2).pe, fun _ _ _ e => (nomatch e), r_n rfl (r_cmp F.units hs (ih a ca e1).pe (ih b cb e2).pe)⟩
        · cases h
      · rename_i o1 o2 b d
        split at h
        · rename_i hs
          obtain ⟨k1, e0, h⟩ := Option.bind_eq_some_iff.mp h
          obtain ⟨k2, e01, h⟩ := Option.bind_eq_some_iff.mp h
          obtain ⟨ca, e1, h⟩ := Option.bind_eq_some_iff.mp h
          obtain ⟨cb, e2, h⟩ := Option.bind_eq_some_iff.mp h
          obtain ⟨cc, e3, rfl⟩ := Option.map_eq_some_iff.mp h
          rw [copOf_ok e0, copOf_ok e01]
          exact ⟨r_chain F.units hs (ih a ca e1).pe (ih b cb e2).pe (ih d cc e3).pe, r_chainT F.units hs (ih a ca e1).pe (ih b cb e2).pe (ih d cc e3).pe, fun _ _ _ e => (nomatch e), r_n rfl (r_chain F.units hs (ih a ca e1).pe (ih b cb e2).pe (ih d cc e3).pe)⟩
        · cases h
      · cases h
    | IfExp cnd a b pos =>
      simp only [trE] at h
      obtain ⟨cc, e0, h⟩ := Option.bind_eq_some_iff.mp h
      obtain ⟨ca, e1, h⟩ := Option.bind_eq_some_iff.mp h
      obtain ⟨cb, e2, rfl⟩ := Option.map_eq_some_iff.mp h
      exact ⟨r_ite (ih cnd cc e0).pt (ih a ca e1).pe (ih b cb e2).pe, r_iteT (ih cnd cc e0).pt (ih a ca e1).pt (ih b cb e2).pt, fun _ _ _ e => (nomatch e), r_n rfl (r_ite (ih cnd cc e0).pt (ih a ca e1).pe (ih b cb e2).pe)⟩
    | Call f args kws pos =>
      cases kws with
      | cons _ _ => simp [trE] at h
      | nil =>
        cases f with
        | Name x p => simp only [trE] at h; exact ok_plain' rfl (trCall_ok F ih h).1 (trCall_ok F ih h).2
        | Attribute o m apos =>
          simp only [trE] at h
          split at h
          · rename_i hc
            simp only [Bool.and_eq_true] at hc
            have hm := trMet_ok (apos := apos) (pos := pos) F ih hc.1.1 hc.1.2 (of_decide_eq_true hc.2) h
            exact ok_plain rfl hm.1 hm.2
          · cases h
        | _ => simp [trE] at h
    | Subscript a s pos =>
      cases s with
      | Slice lo hi st p2 =>
        cases st with
        | none =>
          simp only [trE] at h
          obtain ⟨ca, e1, h⟩ := Option.bind_eq_some_iff.mp h
          obtain ⟨cl, e2, h⟩ := Option.bind_eq_some_iff.mp h
          obtain ⟨ch, e3, rfl⟩ := Option.map_eq_some_iff.mp h
          exact ok_plain rfl (r_sl (ih a ca e1).pe (trO_ok ih e2) (trO_ok ih e3))
        | some _ => simp [trE] at h
      | _ =>
        simp only [trE] at h
        split at h
        · rename_i hp
          obtain ⟨ca, e1, h⟩ := Option.bind_eq_some_iff.mp h
          obtain ⟨cb, e2, rfl⟩ := Option.map_eq_some_iff.mp h
          exact ok_plain rfl (r_ix hp (ih a ca e1).pe (ih _ cb e2).pe)
        · cases h
    | Tuple es k pos =>
      simp only [trE] at h
      obtain ⟨cs, e1, rfl⟩ := Option.map_eq_some_iff.mp h
      exact ok_plain rfl (r_tup (pa_stars ih e1))
    | List es pos =>
      simp only [trE] at h
      obtain ⟨cs, e1, rfl⟩ := Option.map_eq_some_iff.mp h
      exact ok_plain rfl (r_lst (pa_stars ih e1))
    | ListComp elt gens scope pos =>
      simp only [trE] at h
      split at h
      · rename_i tg it ifs
        split at h
        · rename_i hb
          rw [Bool.and_eq_true] at hb
          obtain ⟨p, e1, h⟩ := Option.bind_eq_some_iff.mp h
          split at h
          · rename_i hsub
            obtain ⟨ci, e2, h⟩ := Option.bind_eq_some_iff.mp h
            obtain ⟨cifs, e3, h⟩ := Option.bind_eq_some_iff.mp h
            obtain ⟨celt, e4, rfl⟩ := Option.map_eq_some_iff.mp h
            have hp : ∀ i ∈ pnames p, i ∈ (ownOf T.N scope.names).map fun y => y.2 := fun i hi => by
              have := List.all_eq_true.mp hsub i hi
              exact of_decide_eq_true this
            refine ok_plain rfl (r_comp F.calm (by rw [F.N]; exact F.nd) (trIt_ok F ih e2) (blkOk_by (by rw [F.N, F.sc]; exact hb.1)) hp (fun s H C cl fp => ?_) (fun s H C cl fp => ?_) (fun s H C cl fp => ?_) (set_pure hb.2))
            · exact trG_ok (X := X.blk s H scope (compEnvC scope cl C X.env) fp) F.N F.nd F.calm (blk_tg F s H scope C cl fp) n e1
            · have Fb := F.blk s H scope C cl fp
              cases ifs with
              | nil => simp [trIfs] at e3; subst e3; exact r_ts0
              | cons c1 r =>
                cases r with
                | nil =>
                  simp only [trIfs] at e3
                  obtain ⟨c2, e5, rfl⟩ := Option.map_eq_some_iff.mp e3
                  exact r_ts1 (trE_ok n Fb e5).pt
                | cons _ _ => simp [trIfs] at e3
            · exact (trE_ok n (F.blk s H scope C cl fp) e4).pe
          · cases h
        · cases h
      · cases h
    | _ => simp [trE] at h
end Cr

/-! ## CrM -/
set_option Elab.async false
set_option linter.all false
set_option autoImplicit false
set_option maxRecDepth 100000
set_option maxHeartbeats 4000000
/-! CrM: the translation of statements, and that it is right. -/
namespace Cr
open PySem PySem.Spec L2

/-! ### the opener -/
def tOpen (K : Fg) (P : Prm) (c : CE) : TE := fun σ H Q => ∃ φ F ρ S, Rl K φ F S H ∧ Re K φ F H ρ σ ∧ ∃ is S', op1 (ev P c ρ S) (fun x => match x with
    | .list xs => (intsOf xs).bind fun is => if is.length ≤ 1000 then some is else none
    | _ => none) = some (is, S') ∧
  ∀ φ' F' H' v, Stp φ F H φ' F' H' → Rl K φ' F' (S' ++ [openS is]) H' → RP K φ' F' H' (.r S'.length) v → Q v H'
section
variable {X : Cx} {P : Prm} {n0 : Nat} {pos : Pos}
/-- a new dict and its list become the frame's -/
theorem src_own {K : Fg} {φ : Phi} {F : FS} {H H' : Hp} {S : Store} {d c : Addr} {cells : List Int} {l m t : Int} (hl : Rl K φ F S H) (kp : ∀ b o, H b = some o → H' b = some o) (hd : H d = none) (hc : H c = none) (hne : d ≠ c)
    (h1 : H' d = some (.dK (srcKeys c l m t))) (h2 : H' c = some (.lst (cells.map V.int).reverse)) :
    ∃ φ2 F2, Stp φ F H φ2 F2 H' ∧ Rl K φ2 F2 (S ++ [.src cells l m t]) H' ∧ RP K φ2 F2 H' (.r S.length) (.ref d) := by
  have dom : ∀ a, H a ≠ none → H' a ≠ none := fun a h => by
    cases z : H a with
    | none => exact absurd z h
    | some o => rw [kp a o z]; simp
  let F2 : FS := fun b => F b ∨ b = d ∨ b = c
  have st : Stp φ F H φ F2 H' := ⟨⟨[], by simp, by simp [ads]⟩, fun _ h => .inl h, fun a h n => by
    rcases h with h | rfl | rfl
    · exact absurd h n
    · exact hd
    · exact hc, fun a o _ h => kp a o h, dom⟩
  have had : ads [(d, some c)] = [d, c] := by simp [ads]
  have hnF : ∀ a, F a → a ≠ d ∧ a ≠ c := fun a h => ⟨fun z => hl.dom a h (by rw [z]; exact hd), fun z => hl.dom a h (by rw [z]; exact hc)⟩
  refine ⟨φ ++ [(d, some c)], F2, ⟨⟨[(d, some c)], rfl, fun a ha => ?_⟩, st.fF, st.nF, st.keep, dom⟩, ⟨by simp [hl.len], ?_, fun a ha => ?_, fun a ha => ?_, fun n o e => ?_⟩, (d, some c), by rw [← hl.len]; simp, rfl⟩
  · rw [had] at ha
    simp only [List.mem_cons, List.not_mem_nil, or_false] at ha
    rcases ha with rfl | rfl
    · exact hd
    · exact hc
  · rw [ads_append, had, List.nodup_append]
    refine ⟨hl.nd, by simp [hne], fun a ha b hb z => ?_⟩
    simp only [List.mem_cons, List.not_mem_nil, or_false] at hb
    have := hnF a (hl.inF a ha)
    rcases hb with rfl | rfl
    · exact this.1 z
    · exact this.2 z
  · rw [ads_append, had] at ha
    rcases List.mem_append.mp ha with ha | ha
    · exact .inl (hl.inF a ha)
    · simp only [List.mem_cons, List.not_mem_nil, or_false] at ha
      exact .inr ha
  · rcases ha with h | rfl | rfl
    · exact dom a (hl.dom a h)
    · rw [h1]; simp
    · rw [h2]; simp
  · by_cases hn : n < S.length
    · rw [List.getElem?_append_left hn] at e
      obtain ⟨p, e1, r⟩ := hl.obj n o e
      exact ⟨p, by rw [List.getElem?_append_left (by rw [hl.len]; exact hn)]; exact e1, r.step st hl.inF (fun u h => kp _ u h) fun c _ u h => kp c u h⟩
    · have hn' : n = S.length := by
        have := (List.getElem?_eq_some_iff.mp e).1
        simp at this; omega
      subst hn'
      simp at e; subst e
      exact ⟨(d, some c), by rw [← hl.len]; simp, c, rfl, h1, h2⟩
theorem r_open {x : Str} {e : Expr} {c : CE} {p : Pos} (hf : OpAt X x) (hg : Gl X x) (hdb : (x == ("__debug__" : Str)) = false) (hs : nst e = true) (ha : PE X e (tE X.K P c)) : PE X (.Call (.Name x p) [e] [] pos) (tOpen X.K P c) := by
  obtain ⟨k, addr, fd, ps, ok, room, hm, hk, hb⟩ := hf.ok
  refine PE.imp (pe_call (dvs := []) (E := fun _ _ _ => False) ok room hg hm hk hb .nil pass0 (r_pcons hs ha r_pnil) hdb (nst_ok hs _ _) rfl) fun σ H Q h => ?_
  obtain ⟨φ, F, ρ, S, hl, hρ, is, S', e, q⟩ := h
  obtain ⟨pv, x, e1, e2, e3⟩ := of_op1 e
  refine ⟨φ, F, ρ, S, hl, hρ, [pv], S', by rw [evp, e1]; simp [evp], fun φ1 F1 H1 vs st1 hl1 r1 => ?_⟩
  unfold RPs at r1
  obtain ⟨v, r, rfl, r1, r2⟩ := r1
  unfold RPs at r2
  subst r2
  show spOpen X.K [v] H1 Q (fun _ _ _ => False)
  cases x with
  | list xs =>
    simp only at e3
    obtain ⟨js, e4, e5⟩ := Option.bind_eq_some_iff.mp e3
    split at e5
    · rename_i hb
      cases e5
      obtain ⟨a, vs, rfl, h1, h2⟩ := VD.deref hl1 r1 e2
      refine ⟨a, is, rfl, ?_, hb, fun H' d c kp hd hc hne g1 g2 => ?_⟩
      · rw [← h2.ints e4]; exact h1
      · obtain ⟨φ2, F2, st2, hl2, r2⟩ := src_own hl1 kp hd hc hne g1 g2
        exact q φ2 F2 H' _ (st1.trans st2) hl2 r2
    · cases e5
  | _ => cases e3
theorem s_open {s : Stmt} {i : Nat} {c : CE} {t : TE} (h : PS X s (tAsg t (gName i))) (ht : ∀ σ H Q, tOpen X.K P c σ H Q → t σ H Q) : PS X s (tX1 X.K P n0 (.opn i c)) := PS.imp h fun D σ H h => by
  obtain ⟨φb, Fb, Hb, Sb, φ, F, ρ, S, hb, hn, st, hl, hρ, fl, e, q⟩ := h
  rw [sx] at e
  obtain ⟨⟨is, S1⟩, e1, e⟩ := Option.map_eq_some_iff.mp e
  cases e
  exact ht σ H _ ⟨φ, F, ρ, S, hl, hρ, is, S1, e1, fun φ' F' H' v s hl' r => q φ' F' H' _ s hl' ((hρ.step s hl).set i r)⟩
end

/-! ### the translation -/
def noComp : Expr → Bool
  | .ListComp _ _ _ _ => false
  | .SetComp _ _ _ _ => false
  | .DictComp _ _ _ _ _ => false
  | _ => true
/-- x = [.. for ..] stores from within -/
def swB (sc : Scope) (v : Expr) (y : Str) (py : Pos) : Bool := match v with
  | .ListComp _ _ s p => decide (kd sc y = some .local) && (py.line == p.line) && !(s.names.any fun (n, k) => n == y && (k == .local || k == .cell))
  | _ => false
/-- the stores of a, b = x, y -/
def swF (sc : Scope) (ts vs : List Expr) : Option (Option (List Str)) :=
  if !(ts.length == 2 || ts.length == 3) || vs.length != ts.length || ScopeKind.function != .function then some none
  else if vs.any (fun | .Starred .. => true | _ => false) then some none
  else if (ts.filterMap fun
    | .Name id pos => if sc.names.lookup id == some .local && pos.line == (ts.head?.map (·.pos.line)).getD 0 then some id else none
    | _ => none).length != ts.length || (ts.filterMap fun
    | .Name id pos => if sc.names.lookup id == some .local && pos.line == (ts.head?.map (·.pos.line)).getD 0 then some id else none
    | _ => none).eraseDups.length != (ts.filterMap fun
    | .Name id pos => if sc.names.lookup id == some .local && pos.line == (ts.head?.map (·.pos.line)).getD 0 then some id else none
    | _ => none).length then some none
  else if vs.all (foldedForSure 8) then some none
  else if vs.all (constantsAlone 8) then none
  else some (some (ts.filterMap fun
    | .Name id pos => if sc.names.lookup id == some .local && pos.line == (ts.head?.map (·.pos.line)).getD 0 then some id else none
    | _ => none))
def trFl (T : Tab) (f : Expr → Option CE) (i : Nat) (e : Expr) : Option (Bool × CE) := (f e).map fun c => (decide (i ∈ T.muts), c)
def trPar (T : Tab) (f : Expr → Option CE) : List Nat → List Expr → Option (List (Bool × CE))
  | [], [] => some []
  | i :: is, e :: es => if nst e then (trFl T f i e).bind fun c => (trPar T f is es).map (c :: ·) else none
  | _, _ => none
/-- two names by a tuple, one of them a list of the frame's own -/
def trTwo (T : Tab) (sc : Scope) (f : Expr → Option CE) (ts vs : List Expr) : Option CS := match ts, vs with
  | [.Name x _, .Name y _], [a, b] => (ixOf T.N x).bind fun i => (ixOf T.N y).bind fun j => if (i ∈ T.muts ∨ j ∈ T.muts) ∧ locB sc x = true ∧ locB sc y = true then (trPar T f [i, j] [a, b]).map fun cs => CS.par [i, j] cs else none
  | _, _ => none
def trAsg (n : Nat) (T : Tab) (sc : Scope) (tg v : Expr) : Option CS := match tg with
  | .Name y py => if locB sc y then (ixOf T.N y).bind fun i => (match v with
      | .Call (.Name x _) [e] [] _ => if x = T.opn then (if nst e && globB sc x && okN x then (trE n T sc e).map fun c => CS.opn i c else none) else (trE n T sc v).map fun c => if i ∈ T.muts then CS.alloc i c else CS.asg (.nm i) c
      | .SetComp _ _ _ _ => none
      | .DictComp _ _ _ _ _ => none
      | v => (trE n T sc v).map fun c => if i ∈ T.muts then CS.alloc i c else CS.asg (.nm i) c) else none
  | .Tuple ts k tp => (match v with
      | .Tuple vs _ _ => (swF sc ts vs).bind fun r => match r with
        | none => (match trTwo T sc (trE n T sc) ts vs with
          | some s => some s
          | none => (trG n T.N sc (.Tuple ts k tp)).bind fun p => (trE n T sc v).bind fun c => match p with
            | .tup ps => some (CS.asg (.tup ps) c)
            | _ => none)
        | some _ => (match ts, vs with
          | [.Name x _, .Name y _], [a, b] => (ixOf T.N x).bind fun i => (ixOf T.N y).bind fun j => if i ≠ j ∧ kd sc x = some .local ∧ kd sc y = some .local ∧ swF sc ts vs = some (some [x, y]) then (trPar T (trE n T sc) [i, j] [a, b]).map fun cs => CS.par [i, j] cs else none
          | [.Name x _, .Name y _, .Name z _], [a, b, c] => (ixOf T.N x).bind fun i => (ixOf T.N y).bind fun j => (ixOf T.N z).bind fun l => if (i ≠ j ∧ i ≠ l ∧ j ≠ l) ∧ kd sc x = some .local ∧ kd sc y = some .local ∧ kd sc z = some .local ∧ swF sc ts vs = some (some [x, y, z]) then
              (trPar T (trE n T sc) [i, j, l] [a, b, c]).map fun cs => CS.par [i, j, l] cs else none
          | _, _ => none)
      | v => (trG n T.N sc (.Tuple ts k tp)).bind fun p => (trE n T sc v).bind fun c => match p with
          | .tup ps => some (CS.asg (.tup ps) c)
          | _ => none)
  | .Subscript o i _ => if plainIx i then (trE n T sc v).bind fun cv => (trE n T sc o).bind fun co => (trE n T sc i).map fun ci => CS.setIx co ci cv else none
  | _ => none
def trS : Nat → Tab → Scope → Stmt → Option CS
  | 0, _, _, _ => none
  | n + 1, T, sc, s => match s with
    | .Pass _ => some .pass
    | .Break _ => some .brk
    | .Continue _ => some .cnt
    | .Expr e _ => if noComp e then (trE n T sc e).map .expr else none
    | .Assign tgs v _ => match tgs with
      | [tg] => trAsg n T sc tg v
      | _ => none
    | .AugAssign tg op e _ => match tg with
      | .Name x _ => if locB sc x then (ixOf T.N x).bind fun i => (bopOf op).bind fun o => if augOk o then (trE n T sc e).map fun c => .aug i o c else none else none
      | _ => none
    | .If c a b _ => (trE n T sc c).bind fun cc => (mapO (trS n T sc) a).bind fun ca => (mapO (trS n T sc) b).map fun cb => .sif cc ca cb
    | .For tg it body orelse _ => match orelse with
      | [] => if noSet it then (trG n T.N sc tg).bind fun p => (trIt (trE n T sc) T sc tg it).bind fun ci => (mapO (trS n T sc) body).map fun cb => .sfor p ci cb else none
      | _ :: _ => none
    | .While c body orelse _ => match orelse with
      | [] => (trE n T sc c).bind fun cc => (mapO (trS n T sc) body).map fun cb => .swhile cc cb
      | _ :: _ => none
    | .Return v _ => match v with
      | some e => (trE n T sc e).map .ret
      | none => none
    | _ => none
structure FitS (T : Tab) (sc : Scope) (P : Prm) (X : Cx) : Prop where
  fit : Fit T sc P X
  kind : sc.kind = .function
  fn : ∀ x, X.fn x = true
  pass : PassesOwn (model X.prog X.w) X.A X.env X.xe
end Cr

/-! ## CrN -/
set_option Elab.async false
set_option linter.all false
set_option autoImplicit false
set_option maxRecDepth 100000
set_option maxHeartbeats 4000000
/-! CrN: the translation of statements is right. -/
namespace Cr
open PySem PySem.Spec L2

section
variable {env : Env} {sc : Scope}
theorem blockKind_fn (hs : env.scope = sc) (hk : sc.kind = .function) : env.blockKind = .function := by
  unfold Env.blockKind
  rw [hs, hk]
  rfl
theorem sw_name {v : Expr} {y : Str} {py : Pos} {l : Nat} (hs : env.scope = sc) (hk : sc.kind = .function) (h1 : ∀ a b c d, v ≠ .SetComp a b c d) (h2 : ∀ a b c d e, v ≠ .DictComp a b c d e) : swapsWith v (some (.Name y py)) l env = pure (swB sc v y py) := by
  cases v with
  | SetComp a b c d => exact absurd rfl (h1 a b c d)
  | DictComp a b c d e => exact absurd rfl (h2 a b c d e)
  | ListComp a b s p =>
    unfold swapsWith swB
    simp only [blockKind_fn hs hk]
    have e1 : env.kindOf y = kd sc y := by unfold Env.kindOf kd; rw [hs]
    have e2 : (kd sc y == some NameKind.local) = decide (kd sc y = some .local) := by
      by_cases h : kd sc y = some .local
      · rw [h]; rfl
      · rw [decide_eq_false h]
        exact beq_eq_false_iff_ne.mpr h
    rw [e1]
    show pure ((ScopeKind.function == ScopeKind.function) && (kd sc y == some NameKind.local) && (py.line == p.line) && !(s.names.any fun x => x.1 == y && (x.2 == NameKind.local || x.2 == NameKind.cell))) = (pure _ : Sem Bool)
    rw [e2]
    rfl
  | _ => rfl
theorem sw_tup {ts vs : List Expr} {k k2 : Nat} {p p2 : Pos} {r : Option (List Str)} (hs : env.scope = sc) (hk : sc.kind = .function) (h : swF sc ts vs = some r) : swappedStores [.Tuple ts k p] (.Tuple vs k2 p2) env = pure r := by
  unfold swF at h
  unfold swappedStores
  have e1 : ∀ id, env.kindOf id = sc.names.lookup id := fun id => by unfold Env.kindOf; rw [hs]
  simp only [blockKind_fn hs hk, e1]
  split at h
  · rename_i c
    cases h
    exact if_pos c
  · rename_i c
    refine (if_neg c).trans ?_
    split at h
    · rename_i c
      cases h
      exact if_pos c
    · rename_i c
      refine (if_neg c).trans ?_
      split at h
      · rename_i c
        cases h
        exact if_pos c
      · rename_i c
        refine (if_neg c).trans ?_
        split at h
        · rename_i c
          cases h
          exact if_pos c
        · rename_i c
          refine (if_neg c).trans ?_
          split at h
          · cases h
          · rename_i c
            cases h
            exact if_neg c
end

section
variable {T : Tab} {sc : Scope} {P : Prm} {X : Cx} {n0 : Nat}
/-- the parts of a comprehension -/
theorem lc_parts (F : Fit T sc P X) {n : Nat} {elt : Expr} {gens : List Comprehension} {scope : Scope} {p : Pos} {c : CE} (h : trE n T sc (.ListComp elt gens scope p) = some c) {i : Nat} {y : Str} {py spos : Pos} (hy : X.N[i]? = some y) (hyl : X.env.scope.names.lookup y = some .local)
    (hsw : swapsWith (.ListComp elt gens scope p) (some (.Name y py)) spos.line X.env = pure true) :
    ∃ t, PS X (.Assign [.Name y py] (.ListComp elt gens scope p) spos) (tAsg t (gName i)) ∧ (∀ σ H Q, tE X.K P c σ H Q → t σ H Q) ∧ notCall c = true := by
  cases n with
  | zero => simp [trE] at h
  | succ n =>
    have ih : ∀ e c, trE n T sc e = some c → Ok P X e c := fun e c h => trE_ok n F h
    simp only [trE] at h
    split at h
    · rename_i tg it ifs
      split at h
      · rename_i hb
        rw [Bool.and_eq_true] at hb
        obtain ⟨p, e1, h⟩ := Option.bind_eq_some_iff.mp h
        split at h
        · rename_i hsub
          obtain ⟨ci, e2, h⟩ := Option.bind_eq_some_iff.mp h
          obtain ⟨cifs, e3, h⟩ := Option.bind_eq_some_iff.mp h
          obtain ⟨celt, e4, rfl⟩ := Option.map_eq_some_iff.mp h
          have hp : ∀ i ∈ pnames p, i ∈ (ownOf T.N scope.names).map fun y => y.2 := fun i hi => by
            have := List.all_eq_true.mp hsub i hi
            exact of_decide_eq_true this
          refine ⟨_, ps_setLc F.calm (by rw [F.N]; exact F.nd) hy hyl hsw (trIt_ok F ih e2) (blkOk_by (by rw [F.N, F.sc]; exact hb.1)) (fun s H C cl fp => ?_) (fun s H C cl fp => ?_) (fun s H C cl fp => ?_) (set_pure hb.2), fun σ H Q h => to_lc hp σ H Q h, rfl⟩
          · exact trG_ok (X := X.blk s H scope (compEnvC scope cl C X.env) fp) F.N F.nd F.calm (blk_tg F s H scope C cl fp) n e1
          · have Fb := F.blk s H scope C cl fp
            cases ifs with
            | nil => simp [trIfs] at e3; subst e3; exact r_ts0
            | cons c1 r =>
              cases r with
              | nil =>
                simp only [trIfs] at e3
                obtain ⟨c2, e5, rfl⟩ := Option.map_eq_some_iff.mp e3
                exact r_ts1 (trE_ok n Fb e5).pt
              | cons _ _ => simp [trIfs] at e3
          · exact (trE_ok n (F.blk s H scope C cl fp) e4).pe
        · cases h
      · cases h
    · cases h
theorem FitS.tg (F : FitS T sc P X) : TgOk X sc := by
  intro x h
  have hs := F.fit.sc
  unfold locB at h
  rw [Bool.or_eq_true] at h
  refine ⟨?_, .inl (F.fn x)⟩
  unfold L2.Loc
  rw [hs]
  rcases h with h | h
  · exact .inl (of_decide_eq_true h)
  · exact .inr (of_decide_eq_true h)
/-- name = value -/
theorem name_asg (F : FitS T sc P X) {n : Nat} {v : Expr} {c : CE} (h : trE n T sc v = some c) (h1 : ∀ a b c d, v ≠ .SetComp a b c d) (h2 : ∀ a b c d e, v ≠ .DictComp a b c d e) {i : Nat} {y : Str} {py pos : Pos} (hl : locB sc y = true) (hi : ixOf T.N y = some i) :
    (∃ t, PS X (.Assign [.Name y py] v pos) (tAsg t (gName i)) ∧ ∀ σ H Q, tE X.K P c σ H Q → t σ H Q) ∧ ∃ t, PS X (.Assign [.Name y py] v pos) (tAsg t (gName i)) ∧ ∀ σ H Q, tN X.K P c σ H Q → t σ H Q := by
  have hN : X.N[i]? = some y := by rw [F.fit.N]; exact ixOf_ok hi
  have nd : X.N.Nodup := by rw [F.fit.N]; exact F.fit.nd
  have sw := sw_name (py := py) (l := pos.line) F.fit.sc F.kind h1 h2 (y := y)
  have o := trE_ok n F.fit h
  cases hb : swB sc v y py with
  | true =>
    rw [hb] at sw
    cases v with
    | ListComp elt gens scope p =>
      have hyl : X.env.scope.names.lookup y = some .local := by
        rw [F.fit.sc]
        unfold swB at hb
        rw [Bool.and_eq_true, Bool.and_eq_true] at hb
        exact of_decide_eq_true hb.1.1
      obtain ⟨t, q1, q2, q3⟩ := lc_parts F.fit h hN hyl sw
      exact ⟨⟨t, q1, q2⟩, t, q1, fun σ H Q z => q2 σ H Q (tN_tE q3 σ H Q z)⟩
    | _ => simp [swB] at hb
  | false =>
    rw [hb] at sw
    exact ⟨⟨_, ps_set nd hN (F.tg y hl).1 o.pe sw (F.tg y hl).2, fun _ _ _ z => z⟩, _, ps_set nd hN (F.tg y hl).1 o.pn sw (F.tg y hl).2, fun _ _ _ z => z⟩
/-- a tuple of targets takes a value -/
theorem tup_asg (F : FitS T sc P X) {n : Nat} {ts : List Expr} {k : Nat} {tp : Pos} {v : Expr} {pos : Pos} {p : Pat} {c : CE} {cs : CS} (h3 : (match p with
          | .tup ps => some (CS.asg (.tup ps) c)
          | _ => none) = some cs) (h1 : trG n T.N sc (.Tuple ts k tp) = some p) (h2 : trE n T sc v = some c) (hw : swappedStores [.Tuple ts k tp] v X.env = pure none) : PS X (.Assign [.Tuple ts k tp] v pos) (tX1 X.K P n0 cs) := by
  have g := trG_ok F.fit.N F.fit.nd F.fit.calm F.tg n h1
  cases p with
  | nm i => cases h3
  | tup ps =>
    cases h3
    refine s_asgT (ps_asg (trE_ok n F.fit h2).pe g ?_ hw rfl) fun _ _ _ z => z
    cases v <;> rfl
theorem par_args (F : FitS T sc P X) {n : Nat} : ∀ {is : List Nat} {es : List Expr} {cs : List (Bool × CE)}, trPar T (trE n T sc) is es = some cs → PA X es (tNs X.K P cs)
  | [], [], cs, h => by simp [trPar] at h; subst h; exact r_nsnil
  | [], _ :: _, cs, h => by simp [trPar] at h
  | _ :: _, [], cs, h => by simp [trPar] at h
  | i :: is, e :: es, cs, h => by
    unfold trPar at h
    split at h
    · rename_i hs
      obtain ⟨b, e1, h⟩ := Option.bind_eq_some_iff.mp h
      obtain ⟨cs', e2, rfl⟩ := Option.map_eq_some_iff.mp h
      unfold trFl at e1
      obtain ⟨c, e3, rfl⟩ := Option.map_eq_some_iff.mp e1
      have o := trE_ok n F.fit e3
      by_cases hm : i ∈ T.muts
      · rw [decide_eq_true hm]; exact r_nsnew hs o.pn (par_args F e2)
      · rw [decide_eq_false hm]; exact r_nscons hs o.pe (par_args F e2)
    · cases h
theorem two_asg (F : FitS T sc P X) {n : Nat} {ts vs : List Expr} {k k2 : Nat} {tp p2 pos : Pos} {cs : CS} (h : trTwo T sc (trE n T sc) ts vs = some cs) (hw : swappedStores [.Tuple ts k tp] (.Tuple vs k2 p2) X.env = pure none) : PS X (.Assign [.Tuple ts k tp] (.Tuple vs k2 p2) pos) (tX1 X.K P n0 cs) := by
  unfold trTwo at h
  split at h
  · rename_i x px y py a b
    obtain ⟨i, e1, h⟩ := Option.bind_eq_some_iff.mp h
    obtain ⟨j, e2, h⟩ := Option.bind_eq_some_iff.mp h
    split at h
    · rename_i hc
      obtain ⟨-, hx, hy⟩ := hc
      obtain ⟨cs', e3, rfl⟩ := Option.map_eq_some_iff.mp h
      have nd : X.N.Nodup := by rw [F.fit.N]; exact F.fit.nd
      have gi : PG X (.Name x px) (gName i) := pg_name nd (by rw [F.fit.N]; exact ixOf_ok e1) (F.tg x hx).1 (F.tg x hx).2
      have gj : PG X (.Name y py) (gName j) := pg_name nd (by rw [F.fit.N]; exact ixOf_ok e2) (F.tg y hy).1 (F.tg y hy).2
      exact s_parT (ps_asg (pe_tup (par_args F e3)) (pg_tup F.fit.calm (pgs_cons gi (pgs_cons gj pgs_nil))) rfl hw rfl) fun _ _ _ z => z
    · cases h
  · cases h
theorem trAsg_ok (F : FitS T sc P X) {n : Nat} {tg v : Expr} {pos : Pos} {cs : CS} (h : trAsg n T sc tg v = some cs) : PS X (.Assign [tg] v pos) (tX1 X.K P n0 cs) := by
  unfold trAsg at h
  split at h
  · rename_i y py
    split at h
    · rename_i hl
      obtain ⟨i, hi, h⟩ := Option.bind_eq_some_iff.mp h
      have plain : (∀ a b c d, v ≠ .SetComp a b c d) → (∀ a b c d e, v ≠ .DictComp a b c d e) → ((trE n T sc v).map fun c => if i ∈ T.muts then CS.alloc i c else CS.asg (.nm i) c) = some cs → PS X (.Assign [.Name y py] v pos) (tX1 X.K P n0 cs) := fun h1 h2 e => by
        obtain ⟨c, e1, rfl⟩ := Option.map_eq_some_iff.mp e
        obtain ⟨⟨t, q1, q2⟩, t', q3, q4⟩ := name_asg F (py := py) (pos := pos) e1 h1 h2 hl hi
        split
        · exact s_alloc q3 q4
        · exact s_asg q1 q2
      split at h
      · rename_i x p1 e p2
        split at h
        · rename_i hx
          subst hx
          split at h
          · rename_i hc
            rw [Bool.and_eq_true, Bool.and_eq_true] at hc
            obtain ⟨c, e1, rfl⟩ := Option.map_eq_some_iff.mp h
            have hN : X.N[i]? = some y := by rw [F.fit.N]; exact ixOf_ok hi
            have nd : X.N.Nodup := by rw [F.fit.N]; exact F.fit.nd
            exact s_open (ps_set nd hN (F.tg y hl).1 (r_open F.fit.opn (F.fit.gl hc.1.2) (okN_ok hc.2).1 hc.1.1 (trE_ok n F.fit e1).pe) rfl (F.tg y hl).2) fun _ _ _ z => z
          · cases h
        · exact plain (fun _ _ _ _ z => nomatch z) (fun _ _ _ _ _ z => nomatch z) h
      · cases h
      · cases h
      · rename_i h1 h2
        exact plain (fun a b c d z => h1 a b c d z) (fun a b c d e z => h2 a b c d e z) h
    · cases h
  · rename_i ts k tp
    split at h
    · rename_i vs k2 p2
      obtain ⟨r, e0, h⟩ := Option.bind_eq_some_iff.mp h
      have sw := fun kk pp => sw_tup (k := k) (k2 := kk) (p := tp) (p2 := pp) F.fit.sc F.kind e0
      cases r with
      | none =>
        simp only at h
        split at h
        · rename_i s0 hs0
          cases h
          exact two_asg F hs0 (sw k2 p2)
        · obtain ⟨p, e1, h⟩ := Option.bind_eq_some_iff.mp h
          obtain ⟨c, e2, h⟩ := Option.bind_eq_some_iff.mp h
          exact tup_asg F h e1 e2 (sw k2 p2)
      | some names =>
        simp only at h
        split at h
        · rename_i x px y py a b
          obtain ⟨i, e1, h⟩ := Option.bind_eq_some_iff.mp h
          obtain ⟨j, e2, h⟩ := Option.bind_eq_some_iff.mp h
          split at h
          · rename_i hc
            obtain ⟨hij, hx, hy, hw⟩ := hc
            obtain ⟨cs', e3, rfl⟩ := Option.map_eq_some_iff.mp h
            refine s_par2 (ps_par F.fit.calm (by rw [F.fit.N]; exact F.fit.nd) (by rw [F.fit.N]; exact ixOf_ok e1) (by rw [F.fit.N]; exact ixOf_ok e2) hij (by rw [F.fit.sc]; exact hx) (by rw [F.fit.sc]; exact hy) (par_args F e3) (sw_tup F.fit.sc F.kind hw) rfl) fun _ _ _ z => z
          · cases h
        · rename_i x px y py z pz a b c
          obtain ⟨i, e1, h⟩ := Option.bind_eq_some_iff.mp h
          obtain ⟨j, e2, h⟩ := Option.bind_eq_some_iff.mp h
          obtain ⟨l, e3, h⟩ := Option.bind_eq_some_iff.mp h
          split at h
          · rename_i hc
            obtain ⟨⟨hij, hil, hjl⟩, hx, hy, hz, hw⟩ := hc
            obtain ⟨cs', e4, rfl⟩ := Option.map_eq_some_iff.mp h
            refine s_par3 (ps_par3 F.fit.calm (by rw [F.fit.N]; exact F.fit.nd) (by rw [F.fit.N]; exact ixOf_ok e1) (by rw [F.fit.N]; exact ixOf_ok e2) (by rw [F.fit.N]; exact ixOf_ok e3) hij hil hjl (by rw [F.fit.sc]; exact hx) (by rw [F.fit.sc]; exact hy) (by rw [F.fit.sc]; exact hz) (par_args F e4) (sw_tup F.fit.sc F.kind hw) rfl) fun _ _ _ z => z
          · cases h
        · cases h
    · rename_i hv
      obtain ⟨p, e1, h⟩ := Option.bind_eq_some_iff.mp h
      obtain ⟨c, e2, h⟩ := Option.bind_eq_some_iff.mp h
      refine tup_asg F h e1 e2 ?_
      cases v with
      | Tuple a b c => exact absurd rfl (hv a b c)
      | _ => rfl
  · rename_i o i p
    split at h
    · rename_i hp
      obtain ⟨cv, e1, h⟩ := Option.bind_eq_some_iff.mp h
      obtain ⟨co, e2, h⟩ := Option.bind_eq_some_iff.mp h
      obtain ⟨ci, e3, rfl⟩ := Option.map_eq_some_iff.mp h
      refine s_set (trE_ok n F.fit e1).pe (trE_ok n F.fit e2).pe (trE_ok n F.fit e3).pe (fun w => ?_) ?_ ?_
      · cases i <;> first | rfl | (simp [plainIx] at hp)
      · cases v <;> rfl
      · cases v <;> rfl
    · cases h
  · cases h
theorem trB_ok {f : Stmt → Option CS} (ih : ∀ s cs, f s = some cs → PS X s (tX1 X.K P n0 cs)) : ∀ {ss : List Stmt} {css : List CS}, mapO f ss = some css → PSs X ss (tX X.K P n0 css)
  | [], css, h => by simp [mapO] at h; subst h; exact s_nil
  | s :: ss, css, h => by
    unfold mapO at h
    obtain ⟨c, e1, h⟩ := Option.bind_eq_some_iff.mp h
    obtain ⟨cs, e2, rfl⟩ := Option.map_eq_some_iff.mp h
    exact s_cons (ih s c e1) (trB_ok ih e2)
theorem trS_ok (F : FitS T sc P X) : ∀ (n : Nat) {s : Stmt} {cs : CS}, trS n T sc s = some cs → PS X s (tX1 X.K P n0 cs)
  | 0, _, _, h => by simp [trS] at h
  | n + 1, s, cs, h => by
    have ih : ∀ s cs, trS n T sc s = some cs → PS X s (tX1 X.K P n0 cs) := fun s cs h => trS_ok F n h
    have ie : ∀ e c, trE n T sc e = some c → Ok P X e c := fun e c h => trE_ok n F.fit h
    have nd : X.N.Nodup := by rw [F.fit.N]; exact F.fit.nd
    cases s with
    | Pass p => simp only [trS, Option.some.injEq] at h; subst h; exact s_pass
    | Break p => simp only [trS, Option.some.injEq] at h; subst h; exact s_brk
    | Continue p => simp only [trS, Option.some.injEq] at h; subst h; exact s_cnt
    | Expr e p =>
      simp only [trS] at h
      split at h
      · rename_i hc
        obtain ⟨c, e1, rfl⟩ := Option.map_eq_some_iff.mp h
        refine s_expr (ie e c e1).pe ?_
        cases e <;> first | rfl | (simp [noComp] at hc)
      · cases h
    | Assign tgs v p =>
      simp only [trS] at h
      split at h
      · exact trAsg_ok F h
      · cases h
    | AugAssign tg op e p =>
      cases tg with
      | Name x px =>
        simp only [trS] at h
        split at h
        · rename_i hl
          obtain ⟨i, e1, h⟩ := Option.bind_eq_some_iff.mp h
          obtain ⟨o, e2, h⟩ := Option.bind_eq_some_iff.mp h
          split at h
          · rename_i ho
            obtain ⟨c, e3, rfl⟩ := Option.map_eq_some_iff.mp h
            rw [bopOf_ok e2]
            exact s_aug ho nd (by rw [F.fit.N]; exact ixOf_ok e1) (F.tg x hl).1 (ie e c e3).pe (F.tg x hl).2
          · cases h
        · cases h
      | _ => simp [trS] at h
    | If c a b p =>
      simp only [trS] at h
      obtain ⟨cc, e0, h⟩ := Option.bind_eq_some_iff.mp h
      obtain ⟨ca, e1, h⟩ := Option.bind_eq_some_iff.mp h
      obtain ⟨cb, e2, rfl⟩ := Option.map_eq_some_iff.mp h
      exact s_if (ie c cc e0).pt (trB_ok ih e1) (trB_ok ih e2)
    | For tg it body orelse p =>
      cases orelse with
      | cons _ _ => simp [trS] at h
      | nil =>
        simp only [trS] at h
        split at h
        · rename_i hs
          obtain ⟨pt, e0, h⟩ := Option.bind_eq_some_iff.mp h
          obtain ⟨ci, e1, h⟩ := Option.bind_eq_some_iff.mp h
          obtain ⟨cb, e2, rfl⟩ := Option.map_eq_some_iff.mp h
          exact s_for F.pass F.fit.calm (trIt_ok F.fit ie e1) (trG_ok F.fit.N F.fit.nd F.fit.calm F.tg n e0) (trB_ok ih e2) (set_pure hs)
        · cases h
    | While c body orelse p =>
      cases orelse with
      | cons _ _ => simp [trS] at h
      | nil =>
        simp only [trS] at h
        obtain ⟨cc, e0, h⟩ := Option.bind_eq_some_iff.mp h
        obtain ⟨cb, e2, rfl⟩ := Option.map_eq_some_iff.mp h
        exact s_while F.pass (ie c cc e0).pt (trB_ok ih e2)
    | Return v p =>
      cases v with
      | none => simp [trS] at h
      | some e =>
        simp only [trS] at h
        obtain ⟨c, e1, rfl⟩ := Option.map_eq_some_iff.mp h
        have o := ie e c e1
        by_cases hv : notVar c = true
        · exact s_ret hv o.pn
        · cases c with
          | var i => exact s_retVar o.pe
          | _ => exact absurd rfl hv
    | _ => simp [trS] at h
end
end Cr

/-! ## CrO -/
set_option Elab.async false
set_option linter.all false
set_option autoImplicit false
set_option maxRecDepth 100000
set_option maxHeartbeats 4000000
/-! CrO: all defs of a program at once. -/
namespace Cr
open PySem PySem.Spec L2
open PyProof.Rows (envOfC)

structure Ent where
  name : Str
  st : Stmt
  ps : List Str
  N : List Str
  muts : List Nat
  css : List CS
/-- a program: its defs, the drawing def, the opener -/
structure Prog where
  ents : List Ent
  pick : Str
  opn : Str
  refs : Nat → Option Nat
def fnsFrom : Nat → List Ent → List (Str × Nat)
  | _, [] => []
  | i, e :: es => (e.name, i) :: fnsFrom (i + 1) es
def Prog.fns (G : Prog) : List (Str × Nat) := (G.pick, G.ents.length) :: fnsFrom 0 G.ents
def Prog.tab (G : Prog) (e : Ent) : Tab := ⟨e.N, G.fns, e.muts, G.opn⟩
def Prog.pg (G : Prog) : Pg := fun i => (G.ents[i]?).map fun e => ⟨e.ps.length, e.N.length, e.css⟩
/-- the drawing def, as an oracle -/
def pickO : Orc := fun _ args objs => match args, objs with
  | [.r 0, .d (.int most)], [o] => (pickF most o).map fun r => (.int r.1, false, [r.2])
  | _, _ => none
noncomputable def Prog.orc (G : Prog) : Nat → Orc := Cr.orc pickO G.pg G.refs
structure EntOk (G : Prog) (e : Ent) : Prop where
  sc : FnScope e.N e.ps (defScope e.st)
  tr : mapO (trS 40 (G.tab e) (defScope e.st)) (defBody e.st) = some e.css
theorem fnsFrom_get : ∀ {i : Nat} {es : List Ent} {x : Str} {j : Nat}, (fnsFrom i es).lookup x = some j → ∃ k e, es[k]? = some e ∧ e.name = x ∧ j = i + k
  | _, [], _, _, h => by cases h
  | i, e :: es, x, j, h => by
    unfold fnsFrom at h
    by_cases hx : x = e.name
    · subst hx
      rw [List.lookup_cons, beq_self_eq_true] at h
      cases h
      exact ⟨0, e, rfl, rfl, rfl⟩
    · have hb : (x == e.name) = false := by simpa using hx
      rw [List.lookup_cons, hb] at h
      obtain ⟨k, e', h1, h2, h3⟩ := fnsFrom_get h
      exact ⟨k + 1, e', by simpa using h1, h2, by omega⟩
section
variable {pr : Program} {w : World} {K : Fg} {mg : Str → Option Value} {base : Heap} {G : Prog}
/-- what the top has written of a def -/
structure DefAt (K : Fg) (mg : Str → Option Value) (e : Ent) (f : Addr) (fd : FuncData) : Prop where
  fn : L2.Fun K e.name e.name e.st f fd
  mg : mg e.name = some (.ref f)
  bd : Binds K fd e.ps []
/-- what else a program asks -/
structure Base (pr : Program) (w : World) (K : Fg) (mg : Str → Option Value) (base : Heap) (G : Prog) : Prop where
  ok : ∀ e ∈ G.ents, EntOk G e
  at_ : ∀ e ∈ G.ents, ∃ f fd, DefAt K mg e f fd
  pick : ∃ f fd ps, FnOk pr w K mg base CX0 1 f fd ps (spC K pickO G.ents.length) ∧ mg G.pick = some (.ref f) ∧ PySem.W.keepIn K (.ref f) = true ∧ Binds K fd ps []
  opn : ∃ f fd ps, FnOk pr w K mg base CX0 1 f fd ps (spOpen K) ∧ mg G.opn = some (.ref f) ∧ PySem.W.keepIn K (.ref f) = true ∧ Binds K fd ps []
  bf : ∀ b, mg (bfN b) = none
  rng : mg "range" = none
  enm : mg "enumerate" = none
  zip : mg "zip" = none
  dct : mg "dict" = none
theorem spC_less {C C' : Orc} {f f' : Nat} (h : ∀ args S r, C f args S = some r → C' f' args S = some r) : ∀ vs H Q E, spC K C f vs H Q E → spC K C' f' vs H Q E := by
  rintro vs H Q E ⟨φ, F, S, args, r, h1, h2, h3, h4⟩
  exact ⟨φ, F, S, args, r, h1, h2, h args S r h3, h4⟩
theorem all_ok (B : Base pr w K mg base G) : ∀ (d i : Nat) (e : Ent), G.ents[i]? = some e → ∀ f fd, DefAt K mg e f fd → FnG pr w K mg base (d + 2) f fd e.ps (spC K (G.orc d) i)
  | 0, i, e, he, f, fd, D => (fnok_zero D.fn (B.ok e (List.mem_of_getElem? he)).sc).mono (by omega)
  | d + 1, i, e, he, f, fd, D => by
    have O := B.ok e (List.mem_of_getElem? he)
    refine fnok_step D.fn O.sc (pg := G.pg) (css := e.css) (by unfold Prog.pg; rw [he]; rfl) fun cdv A outer s H E n0 gd hr => ?_
    have F : FitS (G.tab e) (defScope e.st) ⟨G.refs, Cr.orc pickO G.pg G.refs d⟩ (cxOf CX0 pr w K mg base e.N e.name (defScope e.st) f cdv A outer s H E).nox := by
      refine ⟨⟨rfl, O.sc.nd, rfl, rfl, ?_, gd, fun x j hx => ⟨gd, ?_⟩, fun b _ => B.bf b, B.rng, B.enm, B.zip, B.dct, ?_⟩, O.sc.kind, fun _ => rfl, PassesOwn.never⟩
      · show (A.deeper (envOfC e.name (defScope e.st) s.heap.objs.size f cdv)).units + 200 < cLine
        have := hr.un
        omega
      · have hx : G.fns.lookup x = some j := hx
        unfold Prog.fns at hx
        by_cases hp : x = G.pick
        · subst hp
          rw [List.lookup_cons, beq_self_eq_true] at hx
          cases hx
          obtain ⟨fp, fdp, psp, h1, h2, h3, h4⟩ := B.pick
          refine ⟨1, fp, fdp, psp, ?_, hr.mono (by omega), h2, h3, h4⟩
          refine (FnG.of h1).imp (spC_less fun args S r h => ?_)
          cases d with
          | zero => exact nomatch (show none = some r from h)
          | succ d =>
            have h : (match G.pg G.ents.length with
              | some fn => runFn ⟨G.refs, Cr.orc pickO G.pg G.refs d⟩ fn args S
              | none => pickO G.ents.length args S) = some r := h
            have : G.pg G.ents.length = none := by unfold Prog.pg; simp
            rw [this] at h
            exact h
        · have hb : (x == G.pick) = false := by simpa using hp
          rw [List.lookup_cons, hb] at hx
          obtain ⟨k, e', h1, h2, h3⟩ := fnsFrom_get hx
          rw [Nat.zero_add] at h3
          subst h3
          obtain ⟨f', fd', D'⟩ := B.at_ e' (List.mem_of_getElem? h1)
          refine ⟨d + 2, f', fd', e'.ps, all_ok B d j e' h1 f' fd' D', hr, ?_, D'.fn.kp, D'.bd⟩
          rw [← h2]; exact D'.mg
      · obtain ⟨fp, fdp, psp, h1, h2, h3, h4⟩ := B.opn
        exact ⟨1, fp, fdp, psp, h1, hr.mono (by omega), h2, h3, h4⟩
    exact trB_ok (fun s cs h => trS_ok F 40 h) O.tr
end
/-- the law itself -/
def spLaw (K : Fg) : Sp := fun vs H Q _ => ∃ (a : Addr) (ns : List Int), vs = [.ref a] ∧ SqL K H a (ns.map V.int) ∧ ns.length ≤ 63 ∧ ∀ H', Q (.bl true) H'
theorem rds_ints {K : Fg} {F : FS} {H : Hp} : ∀ ns : List Int, RDs K F H (ns.map PyData.int) (ns.map V.int)
  | [] => .nil
  | n :: ns => .cons (RD.int n) (rds_ints ns)
/-- the law answers True -/
def LawTrue (G : Prog) (d i : Nat) : Prop := ∀ ns : List Int, ns.length ≤ 63 → ∃ b S, G.orc d i [.d (.list (ns.map PyData.int))] [] = some (.bool true, b, S)
theorem law_ok {pr : Program} {w : World} {K : Fg} {mg : Str → Option Value} {base : Heap} {G : Prog} (B : Base pr w K mg base G) {d i : Nat} {e : Ent} (he : G.ents[i]? = some e) {f : Addr} {fd : FuncData} (D : DefAt K mg e f fd) (h : LawTrue G d i) :
    FnG pr w K mg base (d + 2) f fd e.ps (spLaw K) := by
  refine (all_ok B d i e he f fd D).imp ?_
  rintro vs H Q E ⟨a, ns, rfl, hS, hn, q⟩
  obtain ⟨b, S, e1⟩ := h ns hn
  refine ⟨[], fun _ => False, [], [.d (.list (ns.map PyData.int))], _, ⟨rfl, by simp [ads], by simp [ads], fun _ h => h.elim, fun n o h => by simp at h⟩, ?_, e1, fun H' v st hl rd _ => ?_⟩
  · refine rps_cons ?_ (by unfold RPs; rfl)
    show RD K _ H (.list _) _
    unfold RD
    refine ⟨a, ns.map V.int, rfl, ?_, rds_ints ns⟩
    rcases hS with hS | hS
    · exact .inl ⟨fun h => h, hS⟩
    · exact .inr hS
  · unfold RD at rd
    rw [rd]
    exact q H'
/-- from the law's promise to the goal that the head leaves -/
theorem walk_g {l : PySem.W.OpenLaw} {n k : Nat} {q : Program} {loose : List Str} {XP : (Str → Option Value) → Heap → Prop} {YP : World → Heap → Prop} {d : DefRec} {K : Params → Fg} {sp : World → Sp} {x : Str}
    (hn : l.most = some n) (hz : n ≤ sizeLine) (hdf : d.params.defaults = []) (room : Room k callerA) (hY : ∀ (w : World) (h : Heap), YP w h → (K w.params).In h)
    (F : ∀ (w : World) (mg : Str → Option Value) (fa : Addr) (h : Heap), (K w.params).In h → h.Ns mainGlobals mg → mg d.name = some (.ref fa) →
      ∃ fd : FuncData, (∀ (s : Shared) (u : Value), BindsTo s fd ⟨[u], []⟩ [(x, u)]) ∧ ∀ base : Heap, (K w.params).In base → base.Ns mainGlobals mg → FnG l.prog w (K w.params) mg base k fa fd [x] (sp w))
    (hsp : ∀ (w : World) (H : Hp) (a : Addr) (ns : List Int), ns.length ≤ n → Only H → SqL (K w.params) H a (ns.map V.int) → sp w [.ref a] H (fun v _ => v = .bl true) fun _ _ _ => False) :
    PySem.W.WalkO q loose XP YP l.row.toRowW d [] (fun f vs => PySem.call f vs) := by
  apply Att.attach_call hn hdf
  intro w s0 s1 mg mb fa o pm cd doc a vs ns G Y _ _ _ hmg hobj hints hlen gn
  have kin := hY w _ Y
  obtain ⟨fd, bn, hF⟩ := F w mg fa _ kin G.T.g hmg
  exact top_call kin G.T.g G.T.b G.T.builtins G.T.nolimit gn hobj hints (Nat.le_trans hlen hz) room hF bn fun H on hS => hsp w H a ns hlen on hS
end Cr

/-! ## CrP -/
set_option Elab.async false
set_option linter.all false
set_option autoImplicit false
set_option maxRecDepth 100000
set_option maxHeartbeats 4000000
/-! CrP: the laws' drawing def and their opener, read. -/
namespace Cr
open PySem PySem.Spec L2
open PyProof.Rows (envOfC)

/-! ### keys -/
theorem k_cl : ¬ (Sum.inr "cells" : L2.Key) = .inr "left" := by decide +kernel
theorem k_cm : ¬ (Sum.inr "cells" : L2.Key) = .inr "mixed" := by decide +kernel
theorem k_ct : ¬ (Sum.inr "cells" : L2.Key) = .inr "turn" := by decide +kernel
theorem k_lm : ¬ (Sum.inr "left" : L2.Key) = .inr "mixed" := by decide +kernel
theorem k_lt : ¬ (Sum.inr "left" : L2.Key) = .inr "turn" := by decide +kernel
theorem k_mt : ¬ (Sum.inr "mixed" : L2.Key) = .inr "turn" := by decide +kernel
theorem val_cells (c : Addr) (l m t : Int) : valV (srcKeys c l m t) (.inr "cells") = some (.ref c) := valV_pos rfl
theorem val_left (c : Addr) (l m t : Int) : valV (srcKeys c l m t) (.inr "left") = some (.int l) := by
  unfold srcKeys
  rw [valV_neg k_cl]
  exact valV_pos rfl
theorem val_mixed (c : Addr) (l m t : Int) : valV (srcKeys c l m t) (.inr "mixed") = some (.int m) := by
  unfold srcKeys
  rw [valV_neg k_cm, valV_neg k_lm]
  exact valV_pos rfl
theorem val_turn (c : Addr) (l m t : Int) : valV (srcKeys c l m t) (.inr "turn") = some (.int t) := by
  unfold srcKeys
  rw [valV_neg k_ct, valV_neg k_lt, valV_neg k_mt]
  exact valV_pos rfl
theorem put_left (c : Addr) (l m t z : Int) : putK (srcKeys c l m t) (.inr "left") (.int z) = srcKeys c z m t := by
  unfold putK
  rw [if_pos (by rw [valV_any, val_left]; rfl)]
  unfold srcKeys
  simp only [List.map_cons, List.map_nil, if_neg k_cl, if_neg (Ne.symm k_lm), if_neg (Ne.symm k_lt), if_pos rfl]
  rfl
theorem put_turn (c : Addr) (l m t z : Int) : putK (srcKeys c l m t) (.inr "turn") (.int z) = srcKeys c l m z := by
  unfold putK
  rw [if_pos (by rw [valV_any, val_turn]; rfl)]
  unfold srcKeys
  simp only [List.map_cons, List.map_nil, if_neg k_ct, if_neg k_lt, if_neg k_mt, if_pos rfl]
  rfl
theorem merge_src (c : Addr) (m : Int) : mergeK [] (srcKeys c 1 m 0) = srcKeys c 1 m 0 := by
  have e1 : putK ([] : List (L2.Key × V)) (.inr "cells") (.ref c) = [(.inr "cells", .ref c)] := putK_new _ rfl
  have e2 : putK ([(.inr "cells", .ref c)] : List (L2.Key × V)) (.inr "left") (.int 1) = [(.inr "cells", .ref c), (.inr "left", .int 1)] := putK_new _ ((valV_neg k_cl).trans rfl)
  have e3 : putK ([(.inr "cells", .ref c), (.inr "left", .int 1)] : List (L2.Key × V)) (.inr "mixed") (.int m) = [(.inr "cells", .ref c), (.inr "left", .int 1), (.inr "mixed", .int m)] := putK_new _ ((valV_neg k_cm).trans ((valV_neg k_lm).trans rfl))
  have e4 : putK ([(.inr "cells", .ref c), (.inr "left", .int 1), (.inr "mixed", .int m)] : List (L2.Key × V)) (.inr "turn") (.int 0) = srcKeys c 1 m 0 := putK_new _ ((valV_neg k_ct).trans ((valV_neg k_lt).trans ((valV_neg k_mt).trans rfl)))
  unfold mergeK
  show List.foldl (fun (acc : List (L2.Key × V)) (kv : L2.Key × V) => putK acc kv.1 kv.2) [] [(.inr "cells", .ref c), (.inr "left", .int 1), (.inr "mixed", .int m), (.inr "turn", .int 0)] = _
  simp only [List.foldl_cons, List.foldl_nil]
  rw [e1, e2, e3, e4]

/-! ### the source -/
structure SrcAt (H0 H : Hp) (p c : Addr) (cells : List Int) (l m t : Int) : Prop where
  ne : p ≠ c
  old : ∀ b, b ≠ p → b ≠ c → H b = H0 b
  d : H p = some (.dK (srcKeys c l m t))
  ls : H c = some (.lst (cells.map V.int).reverse)
theorem SrcAt.put {H0 H : Hp} {p c : Addr} {cells : List Int} {l m t l' t' : Int} (h : SrcAt H0 H p c cells l m t) : SrcAt H0 (upd H p (.dK (srcKeys c l' m t'))) p c cells l' m t' :=
  ⟨h.ne, fun b h1 h2 => by rw [upd_ne h1]; exact h.old b h1 h2, upd_same, by rw [upd_ne (Ne.symm h.ne)]; exact h.ls⟩
theorem SrcAt.pop {H0 H : Hp} {p c : Addr} {x : Int} {cells : List Int} {l m t : Int} (h : SrcAt H0 H p c (x :: cells) l m t) : SrcAt H0 (upd H c (.lst (cells.map V.int).reverse)) p c cells l m t :=
  ⟨h.ne, fun b h1 h2 => by rw [upd_ne h2]; exact h.old b h1 h2, by rw [upd_ne h.ne]; exact h.d, upd_same⟩
theorem SrcAt.fin {K : Fg} {φ : Phi} {F : FS} {H0 H : Hp} {q : Addr × Option Addr} {c : Addr} {o : PO} {cells : List Int} {l m t : Int} (hl : Rl K φ F [o] H0) (hq : φ[0]? = some q) (hc : q.2 = some c) (h : SrcAt H0 H q.1 c cells l m t) :
    Stp φ F H0 φ F H ∧ Rl K φ F [.src cells l m t] H := by
  have hφ : φ = [q] := by
    have h1 := hl.len
    cases φ with
    | nil => simp at hq
    | cons a r =>
      simp at hq h1
      subst hq h1
      rfl
  have hads : ads φ = [q.1, c] := by rw [hφ]; simp [ads, hc]
  have dom : ∀ a, H0 a ≠ none → H a ≠ none := fun a ha => by
    by_cases h1 : a = q.1
    · rw [h1, h.d]; simp
    · by_cases h2 : a = c
      · rw [h2, h.ls]; simp
      · rw [h.old a h1 h2]; exact ha
  refine ⟨⟨⟨[], by simp, by simp [ads]⟩, fun _ h => h, fun _ h n => absurd h n, fun a u hn hu => ?_, dom⟩, ⟨hl.len, hl.nd, hl.inF, fun a ha => dom a (hl.dom a ha), fun n u e => ?_⟩⟩
  · rw [hads] at hn
    simp only [List.mem_cons, List.not_mem_nil, or_false, not_or] at hn
    rw [h.old a hn.1 hn.2]; exact hu
  · cases n with
    | zero => simp at e; subst e; exact ⟨q, hq, c, hc, h.d, h.ls⟩
    | succ n => simp at e
theorem pickO_ok {args : List PV} {S : List PO} {i : Nat} {r : PyData × Bool × List PO} (e : pickO i args S = some r) : ∃ most cells l m t z o', args = [.r 0, .d (.int most)] ∧ S = [.src cells l m t] ∧ pickF most (.src cells l m t) = some (z, o') ∧ r = (.int z, false, [o']) := by
  unfold pickO at e
  split at e
  · rename_i most o
    obtain ⟨⟨z, o'⟩, e1, rfl⟩ := Option.map_eq_some_iff.mp e
    cases o with
    | lst xs => simp [pickF] at e1
    | src cells l m t => exact ⟨most, cells, l, m, t, z, o', rfl, rfl, e1, rfl⟩
  · cases e
/-- what the drawing def finds at its beginning -/
theorem pick_start {K : Fg} {φ : Phi} {F : FS} {H : Hp} {vs : List V} {most : Int} {cells : List Int} {l m t : Int} (hl : Rl K φ F [.src cells l m t] H) (hr : RPs K φ F H [.r 0, .d (.int most)] vs) :
    ∃ q c, φ[0]? = some q ∧ q.2 = some c ∧ vs = [.ref q.1, .int most] ∧ SrcAt H H q.1 c cells l m t := by
  obtain ⟨q, hq, c, hc, h1, h2⟩ := hl.obj 0 _ rfl
  obtain ⟨v, w, rfl, r1, r2⟩ := rps2 hr
  obtain ⟨q', hq', rfl⟩ := r1
  rw [hq] at hq'
  cases hq'
  have r2 : RD K F H (.int most) w := r2
  unfold RD at r2
  subst r2
  refine ⟨q, c, hq, hc, rfl, ⟨fun z => ?_, fun _ _ _ => rfl, h1, h2⟩⟩
  rw [← z, h1] at h2
  cases h2
theorem cmul_r {i j : Int} (h : -(2 ^ 64) < j ∧ j < 2 ^ 64) : CMul i j := .inr h
end Cr

/-! ## CrR -/
set_option Elab.async false
set_option linter.all false
set_option autoImplicit false
set_option maxRecDepth 100000
set_option maxHeartbeats 4000000
set_option exponentiation.threshold 100000
/-! CrR: fractions. -/
namespace Cr
open PySem

def fr (q : Rat) : PyData := .tuple [.int q.num, .int q.den]
abbrev Pt := Rat × Rat
def sp (p : Pt) : PyData := .tuple [fr p.1, fr p.2]
def gsp (g : Nat × Rat) : PyData := .tuple [.int g.1, fr g.2]
def rg (r : List Pt) : PyData := .tuple (r.map sp)
def frs (xs : List Rat) : List PyData := xs.map fr

/-- small: num and den below 2^n -/
def sz (n : Nat) (q : Rat) : Prop := q.num.natAbs < 2 ^ n ∧ q.den < 2 ^ n
theorem sz.mono {n m : Nat} {q : Rat} (h : sz n q) (hm : n ≤ m) : sz m q :=
  ⟨Nat.lt_of_lt_of_le h.1 (Nat.pow_le_pow_right (by decide) hm), Nat.lt_of_lt_of_le h.2 (Nat.pow_le_pow_right (by decide) hm)⟩
theorem sm_of {i : Int} {n : Nat} (h : i.natAbs < 2 ^ n) (hn : n ≤ 8192) : sm i := Nat.lt_of_lt_of_le h (Nat.pow_le_pow_right (by decide) hn)
theorem sz.num {n : Nat} {q : Rat} (h : sz n q) (hn : n ≤ 8192) : sm q.num := sm_of h.1 hn
theorem sz.den {n : Nat} {q : Rat} (h : sz n q) (hn : n ≤ 8192) : sm (q.den : Int) := sm_of (by simpa using h.2) hn
theorem mul_lt2 {a b n m : Nat} (h1 : a < 2 ^ n) (h2 : b < 2 ^ m) : a * b < 2 ^ (n + m) := by
  rw [Nat.pow_add]
  exact Nat.mul_lt_mul'' h1 h2
theorem prod_lt {i j : Int} {n m : Nat} (h1 : i.natAbs < 2 ^ n) (h2 : j.natAbs < 2 ^ m) : (i * j).natAbs < 2 ^ (n + m) := by
  rw [Int.natAbs_mul]
  exact mul_lt2 h1 h2
theorem sum_lt {i j : Int} {n : Nat} (h1 : i.natAbs < 2 ^ n) (h2 : j.natAbs < 2 ^ n) : (i + j).natAbs < 2 ^ (n + 1) := by
  rw [Nat.pow_succ]; omega
theorem dif_lt {i j : Int} {n : Nat} (h1 : i.natAbs < 2 ^ n) (h2 : j.natAbs < 2 ^ n) : (i - j).natAbs < 2 ^ (n + 1) := by
  rw [Nat.pow_succ]; omega
theorem num_le (u e : Int) : (Rat.divInt u e).num.natAbs ≤ u.natAbs := by
  rw [Rat.num_divInt]
  refine Nat.le_trans (Int.natAbs_ediv_le_natAbs _ _) ?_
  rw [Int.natAbs_mul]
  have : e.sign.natAbs ≤ 1 := by
    rcases Int.lt_trichotomy e 0 with h | h | h
    · rw [Int.sign_eq_neg_one_of_neg h]; decide
    · subst h; decide
    · rw [Int.sign_eq_one_of_pos h]; decide
  calc e.sign.natAbs * u.natAbs ≤ 1 * u.natAbs := Nat.mul_le_mul_right _ this
    _ = u.natAbs := Nat.one_mul _
theorem den_le {u e : Int} (he : e ≠ 0) : (Rat.divInt u e).den ≤ e.natAbs := by
  rw [Rat.den_divInt, if_neg he]
  exact Nat.div_le_self _ _
theorem sz_div {u e : Int} {n : Nat} (h1 : u.natAbs < 2 ^ n) (h2 : e.natAbs < 2 ^ n) (he : e ≠ 0) : sz n (Rat.divInt u e) := ⟨Nat.lt_of_le_of_lt (num_le u e) h1, Nat.lt_of_le_of_lt (den_le he) h2⟩
theorem den_ne (q : Rat) : (q.den : Int) ≠ 0 := by
  have := q.den_nz
  omega
theorem add_div (x y : Rat) : Rat.divInt (x.num * y.den + y.num * x.den) (x.den * y.den) = x + y := by
  rw [← Rat.divInt_add_divInt _ _ (den_ne x) (den_ne y), Rat.num_divInt_den, Rat.num_divInt_den]
theorem sub_div (x y : Rat) : Rat.divInt (x.num * y.den - y.num * x.den) (x.den * y.den) = x - y := by
  rw [← Rat.divInt_sub_divInt _ _ (den_ne x) (den_ne y), Rat.num_divInt_den, Rat.num_divInt_den]
theorem mul_div (x y : Rat) : Rat.divInt (x.num * y.num) (x.den * y.den) = x * y := by
  rw [← Rat.divInt_mul_divInt, Rat.num_divInt_den, Rat.num_divInt_den]
theorem inv_div (y : Rat) : Rat.divInt y.den y.num = y⁻¹ := (Rat.inv_def y).symm
theorem quo_div (x y : Rat) : Rat.divInt (x.num * y.den) (x.den * y.num) = x / y := by
  rw [← Rat.divInt_mul_divInt, Rat.num_divInt_den, inv_div, Rat.div_def]
theorem sz_add {n m : Nat} {x y : Rat} (h1 : sz n x) (h2 : sz m y) : sz (n + m + 1) (x + y) := by
  rw [← add_div]
  refine sz_div (sum_lt (prod_lt h1.1 (by simpa using h2.2)) ?_) ?_ (Int.mul_ne_zero (den_ne x) (den_ne y))
  · have := prod_lt h2.1 (show (x.den : Int).natAbs < 2 ^ n by simpa using h1.2)
    rwa [Nat.add_comm m n] at this
  · have := prod_lt (show (x.den : Int).natAbs < 2 ^ n by simpa using h1.2) (show (y.den : Int).natAbs < 2 ^ m by simpa using h2.2)
    rw [Nat.pow_succ]; omega
theorem sz_sub {n m : Nat} {x y : Rat} (h1 : sz n x) (h2 : sz m y) : sz (n + m + 1) (x - y) := by
  rw [← sub_div]
  refine sz_div (dif_lt (prod_lt h1.1 (by simpa using h2.2)) ?_) ?_ (Int.mul_ne_zero (den_ne x) (den_ne y))
  · have := prod_lt h2.1 (show (x.den : Int).natAbs < 2 ^ n by simpa using h1.2)
    rwa [Nat.add_comm m n] at this
  · have := prod_lt (show (x.den : Int).natAbs < 2 ^ n by simpa using h1.2) (show (y.den : Int).natAbs < 2 ^ m by simpa using h2.2)
    rw [Nat.pow_succ]; omega
theorem sz_mul {n m : Nat} {x y : Rat} (h1 : sz n x) (h2 : sz m y) : sz (n + m) (x * y) := by
  rw [← mul_div]
  exact sz_div (prod_lt h1.1 h2.1) (prod_lt (by simpa using h1.2) (by simpa using h2.2)) (Int.mul_ne_zero (den_ne x) (den_ne y))
theorem sz_quo {n m : Nat} {x y : Rat} (h1 : sz n x) (h2 : sz m y) (hy : y ≠ 0) : sz (n + m) (x / y) := by
  rw [← quo_div]
  exact sz_div (prod_lt h1.1 (by simpa using h2.2)) (prod_lt (by simpa using h1.2) h2.1) (Int.mul_ne_zero (den_ne x) (fun h => hy (Rat.num_eq_zero.mp h)))
/-- what a fraction in lowest terms is -/
theorem low_terms {u e g : Int} (he : e ≠ 0) (hg : g = ((e.gcd u : Nat) : Int)) :
    u.fdiv (if e > 0 then g else -g) = (Rat.divInt u e).num ∧ e.fdiv (if e > 0 then g else -g) = ((Rat.divInt u e).den : Int) := by
  have hg0 : e.gcd u ≠ 0 := fun h => he (Int.gcd_eq_zero_iff.mp h).1
  have hgp : (0 : Int) < ((e.gcd u : Nat) : Int) := by omega
  obtain ⟨a, ha⟩ := Int.gcd_dvd_left e u
  obtain ⟨b, hb⟩ := Int.gcd_dvd_right e u
  rw [Rat.num_divInt, Rat.den_divInt, if_neg he]
  subst hg
  generalize hG : ((e.gcd u : Nat) : Int) = G at *
  have eg : (e.gcd u) = G.natAbs := by omega
  by_cases hp : e > 0
  · rw [if_pos hp]
    have q1 : u.fdiv G = b := by rw [hb, Int.mul_fdiv_cancel_left _ (by omega)]
    have q2 : e.fdiv G = a := by rw [ha, Int.mul_fdiv_cancel_left _ (by omega)]
    refine ⟨?_, ?_⟩
    · rw [q1, Int.sign_eq_one_of_pos hp, Int.one_mul, hb, Int.mul_ediv_cancel_left _ (by omega)]
    · rw [q2]
      have ap : 0 < a := by
        rcases Int.lt_or_le 0 a with h | h
        · exact h
        · have : G * a ≤ 0 := Int.mul_nonpos_of_nonneg_of_nonpos (by omega) h
          omega
      have : e.natAbs / e.gcd u = a.natAbs := by
        rw [eg]
        conv => lhs; rw [ha]
        rw [Int.natAbs_mul, Nat.mul_div_cancel_left _ (by omega)]
      rw [this]; omega
  · rw [if_neg hp]
    have hn : e < 0 := by omega
    have q1 : u.fdiv (-G) = -b := by
      have : u = -G * -b := by rw [hb, Int.neg_mul_neg]
      rw [this, Int.mul_fdiv_cancel_left _ (by omega)]
    have q2 : e.fdiv (-G) = -a := by
      have : e = -G * -a := by rw [ha, Int.neg_mul_neg]
      rw [this, Int.mul_fdiv_cancel_left _ (by omega)]
    refine ⟨?_, ?_⟩
    · rw [q1, Int.sign_eq_neg_one_of_neg hn]
      have : -1 * u = G * -b := by rw [hb, Int.mul_neg, Int.neg_mul, Int.one_mul]
      rw [this, Int.mul_ediv_cancel_left _ (by omega)]
    · rw [q2]
      have an : a < 0 := by
        rcases Int.lt_or_le a 0 with h | h
        · exact h
        · have : 0 ≤ G * a := Int.mul_nonneg (by omega) h
          omega
      have : e.natAbs / e.gcd u = a.natAbs := by
        rw [eg]
        conv => lhs; rw [ha]
        rw [Int.natAbs_mul, Nat.mul_div_cancel_left _ (by omega)]
      rw [this]; omega

theorem sm_gcd {u e : Int} (he : e ≠ 0) (h : sm e) : sm ((e.gcd u : Nat) : Int) := by
  have h1 : e.gcd u ≤ e.natAbs := Nat.le_of_dvd (by omega) (by rw [Int.gcd]; exact Nat.gcd_dvd_left _ _)
  unfold sm at h ⊢
  exact Nat.lt_of_le_of_lt (by simpa using h1) h
theorem sm_prod {i j : Int} {n m : Nat} (h1 : i.natAbs < 2 ^ n) (h2 : j.natAbs < 2 ^ m) (h : n + m ≤ 8192) : sm (i * j) := sm_of (prod_lt h1 h2) h
theorem sz.nd {n : Nat} {q : Rat} (h : sz n q) : (q.den : Int).natAbs < 2 ^ n := by simpa using h.2
theorem items_fr (q : Rat) : items (fr q) = some [.int q.num, .int q.den] := rfl
theorem items_sp (p : Pt) : items (sp p) = some [fr p.1, fr p.2] := rfl
theorem items_rg (r : List Pt) : items (rg r) = some (r.map sp) := rfl
theorem fr_inj {x y : Rat} (h : fr x = fr y) : x = y := by
  unfold fr at h
  injection h with h
  injection h with h1 h2
  injection h2 with h2 _
  injection h1 with h1
  injection h2 with h2
  exact Rat.ext h1 (by omega)
theorem shp_fr (q : Rat) (n : Nat) : shp (n + 1) (fr q) = true := by simp [fr, shp, shpAll]
theorem eqv_fr (x y : Rat) : PyData.eqv (fr x) (fr y) = decide (x = y) := by
  by_cases h : x = y
  · subst h
    simp [fr, PyData.eqv, PyData.eqvAll]
  · have : ¬ (x.num = y.num ∧ x.den = y.den) := fun ⟨h1, h2⟩ => h (Rat.ext h1 h2)
    simp [fr, PyData.eqv, PyData.eqvAll, h]
    omega
theorem cmp_eqF (x y : Rat) : cmpD .eq (fr x) (fr y) = some (decide (x = y)) := by
  simp [cmpD, shp_fr, eqv_fr]
theorem cmp_neF (x y : Rat) : cmpD .ne (fr x) (fr y) = some (!decide (x = y)) := by
  simp [cmpD, shp_fr, eqv_fr]
/-- comparing by products -/
theorem cmp_num (x y : Rat) : (x.num * y.den < y.num * x.den) ↔ x < y := (Rat.lt_iff x y).symm
theorem cmp_eq0 (x y : Rat) : (x.num * y.den - y.num * x.den = 0) ↔ x = y := by
  rw [Rat.eq_iff_mul_eq_mul]; omega

theorem items_list (xs : List PyData) : items (.list xs) = some xs := rfl
theorem items_tuple (xs : List PyData) : items (.tuple xs) = some xs := rfl
theorem cmp_ltI (i j : Int) : cmpD .lt (.int i) (.int j) = some (decide (i < j)) := rfl
theorem cmp_leI (i j : Int) : cmpD .le (.int i) (.int j) = some (decide (i ≤ j)) := rfl
theorem cmp_gtI (i j : Int) : cmpD .gt (.int i) (.int j) = some (decide (j < i)) := rfl
theorem cmp_geI (i j : Int) : cmpD .ge (.int i) (.int j) = some (decide (j ≤ i)) := rfl
theorem cmp_isNone : cmpD .isN .none .none = some true := rfl
theorem cmp_isNoneT (xs : List PyData) : cmpD .isN (.tuple xs) .none = some false := rfl
theorem cmp_notNone : cmpD .notN .none .none = some false := rfl
theorem cmp_notNoneT (xs : List PyData) : cmpD .notN (.tuple xs) .none = some true := rfl
theorem cmp_notB (a b : Bool) : cmpD .notN (.bool a) (.bool b) = some (!decide (a = b)) := rfl
theorem cmp_isB (a b : Bool) : cmpD .isN (.bool a) (.bool b) = some (decide (a = b)) := rfl
theorem cmp_neB (a b : Bool) : cmpD .ne (.bool a) (.bool b) = some (!decide (a = b)) := by
  cases a <;> cases b <;> simp [cmpD, shp, PyData.eqv]
theorem cmp_eqB (a b : Bool) : cmpD .eq (.bool a) (.bool b) = some (decide (a = b)) := by
  cases a <;> cases b <;> simp [cmpD, shp, PyData.eqv]
theorem bd_sp (ps : List Pat) (q : Pt) (ρ : Ev) : bd (.tup ps) (sp q) ρ = bds ps [fr q.1, fr q.2] ρ := by
  show bd (.tup ps) (.tuple _) ρ = _
  rw [bd]
theorem bd_gsp (ps : List Pat) (q : Nat × Rat) (ρ : Ev) : bd (.tup ps) (gsp q) ρ = bds ps [.int q.1, fr q.2] ρ := by
  show bd (.tup ps) (.tuple _) ρ = _
  rw [bd]
theorem items_gsp (p : Nat × Rat) : items (gsp p) = some [.int p.1, fr p.2] := rfl
theorem tru_int (i : Int) : truD (.int i) = some (i != 0) := rfl
theorem tru_bool (b : Bool) : truD (.bool b) = some b := rfl
end Cr

/-! ## CrS -/
set_option Elab.async false
set_option linter.all false
set_option autoImplicit false
set_option maxRecDepth 100000
set_option maxHeartbeats 4000000
/-! CrS: running the core language by hand. -/
namespace Cr
open PySem

theorem loop_none {α β : Type} {f : α → Option (α ⊕ β)} {a : α} (h : f a = none) : loop f a = none := by
  cases e : loop f a with
  | none => rfl
  | some b =>
    obtain ⟨n, hn⟩ := of_loop e
    cases n with
    | zero => simp [iter] at hn
    | succ n => unfold iter at hn; rw [h] at hn; cases hn
/-- one turn of a while -/
theorem sx_while (P : Prm) (n0 : Nat) (c : CE) (body : List CS) (ρ : Ev) (S : Store) : sx P n0 (.swhile c body) ρ S = (op1 (ev P c ρ S) truD).bind fun r => if r.1 = true then (sxs P n0 body ρ r.2).bind (fun fl => match fl with
    | .nx ρ' S' => sx P n0 (.swhile c body) ρ' S'
    | .ct ρ' S' => sx P n0 (.swhile c body) ρ' S'
    | .bk ρ' S' => some (.nx ρ' S')
    | .rt x n S' => some (.rt x n S')) else some (.nx ρ r.2) := by
  have e : ∀ ρ S, sx P n0 (.swhile c body) ρ S = loop (fun q : Ev × Store => (op1 (ev P c q.1 q.2) truD).bind fun r =>
      if r.1 = true then (sxs P n0 body q.1 r.2).map fun fl => match fl with
        | .nx ρ' S' => .inl (ρ', S')
        | .ct ρ' S' => .inl (ρ', S')
        | .bk ρ' S' => .inr (.nx ρ' S')
        | .rt x n S' => .inr (.rt x n S')
      else some (.inr (Fl.nx q.1 r.2))) (ρ, S) := fun ρ S => by rw [sx] <;> rfl
  rw [e]
  cases h1 : op1 (ev P c ρ S) truD with
  | none => exact loop_none (by simp [h1])
  | some r =>
    obtain ⟨k, S1⟩ := r
    cases k with
    | false =>
      rw [loop_end (b := .nx ρ S1) (by simp [h1])]
      simp
    | true =>
      simp only [Option.bind_some, if_true]
      cases h2 : sxs P n0 body ρ S1 with
      | none => exact loop_none (by simp [h1, h2])
      | some fl =>
        cases fl with
        | nx ρ' S' => rw [loop_go (a' := (ρ', S')) (by simp [h1, h2])]; exact (e ρ' S').symm
        | ct ρ' S' => rw [loop_go (a' := (ρ', S')) (by simp [h1, h2])]; exact (e ρ' S').symm
        | bk ρ' S' => rw [loop_end (b := .nx ρ' S') (by simp [h1, h2])]; rfl
        | rt x n S' => rw [loop_end (b := .rt x n S') (by simp [h1, h2])]; rfl
/-- a for that goes through -/
theorem forL_nil {g : Store → Prop} {f : PyData → Ev → Store → Option Fl} {ρ : Ev} {S : Store} (h : g S) : forL g f [] ρ S = some (.nx ρ S) := by
  unfold forL; rw [if_pos h]
theorem forL_cons {g : Store → Prop} {f : PyData → Ev → Store → Option Fl} {x : PyData} {xs : List PyData} {ρ ρ' : Ev} {S S' : Store} (h : g S) (e : f x ρ S = some (.nx ρ' S')) : forL g f (x :: xs) ρ S = forL g f xs ρ' S' := by
  conv => lhs; unfold forL
  rw [if_pos h, e]
  rfl
theorem forL_cont {g : Store → Prop} {f : PyData → Ev → Store → Option Fl} {x : PyData} {xs : List PyData} {ρ ρ' : Ev} {S S' : Store} (h : g S) (e : f x ρ S = some (.ct ρ' S')) : forL g f (x :: xs) ρ S = forL g f xs ρ' S' := by
  conv => lhs; unfold forL
  rw [if_pos h, e]
  rfl
theorem forL_ret {g : Store → Prop} {f : PyData → Ev → Store → Option Fl} {x : PyData} {xs : List PyData} {ρ : Ev} {S S' : Store} {y : PyData} {n : Bool} (h : g S) (e : f x ρ S = some (.rt y n S')) : forL g f (x :: xs) ρ S = some (.rt y n S') := by
  unfold forL
  rw [if_pos h, e]
  rfl
theorem forL_brk {g : Store → Prop} {f : PyData → Ev → Store → Option Fl} {x : PyData} {xs : List PyData} {ρ ρ' : Ev} {S S' : Store} (h : g S) (e : f x ρ S = some (.bk ρ' S')) : forL g f (x :: xs) ρ S = some (.nx ρ' S') := by
  unfold forL
  rw [if_pos h, e]
  rfl
/-- comprehensions that leave the store -/
theorem cmpL_map {f : PyData → Store → Option (List PyData × Store)} {α : Type} {S : Store} {d : α → PyData} {h : α → List PyData} : ∀ {xs : List α}, (∀ x ∈ xs, f (d x) S = some (h x, S)) → cmpL f (xs.map d) S = some (xs.flatMap h, S)
  | [], _ => rfl
  | x :: xs, H => by
    rw [List.map_cons]
    unfold cmpL
    rw [H x List.mem_cons_self]
    simp only [Option.bind_some]
    rw [cmpL_map (xs := xs) fun y hy => H y (List.mem_cons_of_mem x hy)]
    simp
theorem flatMap_one {α β : Type} (h : α → β) : ∀ xs : List α, (xs.flatMap fun x => [h x]) = xs.map h
  | [] => rfl
  | x :: xs => by simp [flatMap_one h xs]
theorem flatMap_if {α β : Type} (p : α → Bool) (h : α → β) : ∀ xs : List α, (xs.flatMap fun x => if p x = true then [h x] else []) = (xs.filter p).map h
  | [] => rfl
  | x :: xs => by
    rw [List.flatMap_cons, flatMap_if p h xs, List.filter_cons]
    split <;> simp
/-- a comprehension over data -/
theorem clause_map {α : Type} {xs : List α} {d : α → PyData} {h : α → List PyData} {g : Store → Prop} {S : Store} {r : Option (Its × Store)} {f : PyData → Store → Option (List PyData × Store)} (e : r = some ((xs.map d, g), S)) (hg : g S) (H : ∀ x ∈ xs, f (d x) S = some (h x, S)) : clause r f = some (xs.flatMap h, S) := by
  unfold clause
  rw [e]
  simp only [Option.bind_some]
  rw [cmpL_map (fun x hx => by rw [if_pos hg]; exact H x hx)]
  simp only [Option.bind_some]
  rw [if_pos hg]
theorem comp_map {P : Prm} {own : List Nat} {p : Pat} {it : CE} {ifs : List CE} {elt : CE} {ρ : Ev} {S S0 : Store} {α : Type} {xs : List α} {d : α → PyData} {h : α → List PyData} {g : Store → Prop} (e : evi P it ρ S0 = some ((xs.map d, g), S)) (hg : g S) (hl : (xs.flatMap h).length ≤ line)
    (H : ∀ x ∈ xs, turnC P own p ifs (eltC P elt) ρ (d x) S = some (h x, S)) : ev P (.comp own p it ifs elt) ρ S0 = some (.d (.list (xs.flatMap h)), S) := by
  rw [ev_comp, clause_map e hg H]
  unfold inLine
  simp only [Option.bind_some]
  rw [if_pos hl]

/-! ### statements, one by one -/
section
variable {P : Prm} {n0 : Nat} {ρ : Ev} {S : Store}
theorem sxs_nil : sxs P n0 [] ρ S = some (.nx ρ S) := by rw [sxs]
theorem sxs_cons {s : CS} {ss : List CS} : sxs P n0 (s :: ss) ρ S = (sx P n0 s ρ S).bind fun fl => match fl with
    | .nx ρ' S' => sxs P n0 ss ρ' S'
    | .rt x n S' => some (.rt x n S')
    | .bk ρ' S' => some (.bk ρ' S')
    | .ct ρ' S' => some (.ct ρ' S') := by
  rw [sxs]
  congr 1
  funext fl
  cases fl <;> rfl
theorem sx_expr {e : CE} : sx P n0 (.expr e) ρ S = (ev P e ρ S).map fun r => .nx ρ r.2 := by rw [sx]
theorem sx_asg {i : Nat} {e : CE} : sx P n0 (.asg (.nm i) e) ρ S = (ev P e ρ S).map fun r => .nx (ρ.set i (some r.1)) r.2 := by
  rw [sx]
  cases ev P e ρ S <;> rfl
theorem sx_asgT {ps : List Pat} {e : CE} : sx P n0 (.asg (.tup ps) e) ρ S = (dt (ev P e ρ S)).bind fun r => (bd (.tup ps) r.1 ρ).map fun ρ' => .nx ρ' r.2 := by
  rw [sx]
  cases ev P e ρ S with
  | none => rfl
  | some r =>
    obtain ⟨v, S'⟩ := r
    cases v <;> rfl
theorem sx_alloc {i : Nat} {e : CE} : sx P n0 (.alloc i e) ρ S = (own (evn P e ρ S)).map fun r => .nx (ρ.set i (some r.1)) r.2 := by rw [sx]
theorem sx_par {is : List Nat} {es : List (Bool × CE)} : sx P n0 (.par is es) ρ S = (evns P es ρ S).bind fun r => (setAll is r.1 ρ).map fun ρ' => .nx ρ' r.2 := by rw [sx]
theorem sx_if {c : CE} {a b : List CS} : sx P n0 (.sif c a b) ρ S = (op1 (ev P c ρ S) truD).bind fun k => if k.1 = true then sxs P n0 a ρ k.2 else sxs P n0 b ρ k.2 := by rw [sx]
theorem sx_for {p : Pat} {it : CE} {body : List CS} : sx P n0 (.sfor p it body) ρ S = (evi P it ρ S).bind fun r => forL r.1.2 (fun y ρ S => (bd p y ρ).bind fun ρ1 => sxs P n0 body ρ1 S) r.1.1 ρ r.2 := by rw [sx]
theorem sx_retV {i : Nat} : sx P n0 (.ret (.var i)) ρ S = (ρ[i]?.bind id).bind fun v => match v with
      | .d x => some (.rt x false (S.take n0))
      | .r n => if n < n0 then none else (deref S (.r n)).map fun x => .rt x true (S.take n0) := by rw [sx] <;> rfl
theorem sx_retE {c : CE} (h : notVar c = true) : sx P n0 (.ret c) ρ S = (evn P c (frz n0 ρ S) (S.take n0)).bind fun r => match r.1.1 with
      | .d x => if r.2.length = n0 then some (.rt x r.1.2 r.2) else none
      | _ => none := sx_ret h ρ S
theorem sx_aug {i : Nat} {op : BOp} {e : CE} : sx P n0 (.aug i op e) ρ S = (op2 ((ρ[i]?.bind id).map fun v => (v, S)) (ev P e ρ) fun x y => match x, y with
    | .int _, .int _ => binD op x y
    | _, _ => none).map fun r => .nx (ρ.set i (some (.d r.1))) r.2 := by rw [sx] <;> rfl
theorem sx_brk : sx P n0 .brk ρ S = some (.bk ρ S) := by rw [sx]
theorem sx_cnt : sx P n0 .cnt ρ S = some (.ct ρ S) := by rw [sx]
/-- calls -/
theorem evn_call {f : Nat} {es : List CE} : evn P (.call f es) ρ S = (evp P es ρ S).bind fun r => (callC P.C (P.refs f) f r.1 r.2).map fun q => ((.d q.1, q.2.1), q.2.2) := rfl
end
theorem cmp_eqI (i j : Int) : cmpD .eq (.int i) (.int j) = some (decide (i = j)) := by
  simp [cmpD, shp, PyData.eqv]
  rfl
theorem cmp_neI (i j : Int) : cmpD .ne (.int i) (.int j) = some (!decide (i = j)) := by
  simp [cmpD, shp, PyData.eqv]
  rfl
/-- Euclid, as the package and as the laws write it -/
theorem gcd_step (a b : Int) (h : 0 < b) : b.gcd (a.fmod b) = a.gcd b := by
  have e : a.fmod b = a % b := Int.fmod_eq_emod_of_nonneg a (by omega)
  rw [e, Int.gcd_comm a b, ← Int.emod_add_mul_ediv a b]
  simp [Int.gcd_comm]
theorem gcd_loop {P : Prm} {n0 : Nat} {S : Store} : ∀ (n : Nat) (a b : Int), 0 ≤ a → 0 ≤ b → b.natAbs < n → sx P n0 (.swhile (.cmp .gt (.var 1) (.cst (.int 0))) [.par [0, 1] [(false, (.var 1)), (false, (.bin .mod (.var 0) (.var 1)))]]) [some (.d (.int a)), some (.d (.int b))] S =
    some (.nx [some (.d (.int (a.gcd b : Nat))), some (.d (.int 0))] S)
  | 0, a, b, _, _, h => by omega
  | n + 1, a, b, ha, hb, h => by
    rw [sx_while]
    by_cases h0 : b = 0
    · subst h0
      simp [ev, op1, op2, vb, deref, cmpD, truD]
      omega
    · have hp : 0 < b := by omega
      have e : a.fmod b = a % b := Int.fmod_eq_emod_of_nonneg a (by omega)
      have e1 : 0 ≤ a % b := Int.emod_nonneg a h0
      have e2 : a % b < b := Int.emod_lt_of_pos a hp
      simp [ev, op1, op2, vb, vd, deref, cmpD, truD, hp, sxs_cons, sxs_nil, sx_par, evns, binD, h0, setAll]
      rw [gcd_loop n b (a.fmod b) hb (by omega) (by omega), gcd_step a b hp]
theorem gcd_loop2 {P : Prm} {n0 : Nat} {S : Store} : ∀ (n : Nat) (a b : Int), 0 ≤ a → 0 ≤ b → b.natAbs < n → sx P n0 (.swhile (.cmp .ne (.var 1) (.cst (.int 0))) [.par [0, 1] [(false, (.var 1)), (false, (.bin .mod (.bf .int [(.var 0)]) (.var 1)))]]) [some (.d (.int a)), some (.d (.int b))] S =
    some (.nx [some (.d (.int (a.gcd b : Nat))), some (.d (.int 0))] S)
  | 0, a, b, _, _, h => by omega
  | n + 1, a, b, ha, hb, h => by
    rw [sx_while]
    by_cases h0 : b = 0
    · subst h0
      simp [ev, op1, op2, vb, deref, cmp_neI, truD]
      omega
    · have hp : 0 < b := by omega
      have e : a.fmod b = a % b := Int.fmod_eq_emod_of_nonneg a (by omega)
      have e1 : 0 ≤ a % b := Int.emod_nonneg a h0
      have e2 : a % b < b := Int.emod_lt_of_pos a hp
      simp [ev, evp, derefs, bfD, op1, op2, vb, vd, deref, cmp_neI, truD, hp, sxs_cons, sxs_nil, sx_par, evns, binD, h0, setAll]
      rw [gcd_loop2 n b (a.fmod b) hb (by omega) (by omega), gcd_step a b hp]
/-! returns, by form -/
section
variable {P : Prm} {n0 : Nat} {ρ : Ev} {S : Store}
theorem ret_plain {c : CE} (h1 : notVar c = true) (h2 : notCall c = true) : sx P n0 (.ret c) ρ S = (ev P c (frz n0 ρ S) (S.take n0)).bind fun r => match r.1 with
      | .d x => if r.2.length = n0 then some (.rt x (isNew c) r.2) else none
      | _ => none := by
  rw [sx_retE h1, evn_plain h2]
  cases ev P c (frz n0 ρ S) (S.take n0) with
  | none => rfl
  | some r => rfl
theorem ret_tup (es : List CE) : sx P n0 (.ret (.tup es)) ρ S = (ev P (.tup es) (frz n0 ρ S) (S.take n0)).bind fun r => match r.1 with
      | .d x => if r.2.length = n0 then some (.rt x (isNew (.tup es)) r.2) else none
      | _ => none := ret_plain rfl rfl
theorem evn_tup (es : List CE) : evn P (.tup es) ρ S = (ev P (.tup es) ρ S).map fun r => ((r.1, isNew (.tup es)), r.2) := rfl
theorem ret_lst (es : List CE) : sx P n0 (.ret (.lst es)) ρ S = (ev P (.lst es) (frz n0 ρ S) (S.take n0)).bind fun r => match r.1 with
      | .d x => if r.2.length = n0 then some (.rt x (isNew (.lst es)) r.2) else none
      | _ => none := ret_plain rfl rfl
theorem evn_lst (es : List CE) : evn P (.lst es) ρ S = (ev P (.lst es) ρ S).map fun r => ((r.1, isNew (.lst es)), r.2) := rfl
theorem ret_bin (op : BOp) (a b : CE) : sx P n0 (.ret (.bin op a b)) ρ S = (ev P (.bin op a b) (frz n0 ρ S) (S.take n0)).bind fun r => match r.1 with
      | .d x => if r.2.length = n0 then some (.rt x (isNew (.bin op a b)) r.2) else none
      | _ => none := ret_plain rfl rfl
theorem evn_bin (op : BOp) (a b : CE) : evn P (.bin op a b) ρ S = (ev P (.bin op a b) ρ S).map fun r => ((r.1, isNew (.bin op a b)), r.2) := rfl
theorem ret_neg (a : CE) : sx P n0 (.ret (.neg a)) ρ S = (ev P (.neg a) (frz n0 ρ S) (S.take n0)).bind fun r => match r.1 with
      | .d x => if r.2.length = n0 then some (.rt x (isNew (.neg a)) r.2) else none
      | _ => none := ret_plain rfl rfl
theorem evn_neg (a : CE) : evn P (.neg a) ρ S = (ev P (.neg a) ρ S).map fun r => ((r.1, isNew (.neg a)), r.2) := rfl
theorem ret_not (a : CE) : sx P n0 (.ret (.not a)) ρ S = (ev P (.not a) (frz n0 ρ S) (S.take n0)).bind fun r => match r.1 with
      | .d x => if r.2.length = n0 then some (.rt x (isNew (.not a)) r.2) else none
      | _ => none := ret_plain rfl rfl
theorem evn_not (a : CE) : evn P (.not a) ρ S = (ev P (.not a) ρ S).map fun r => ((r.1, isNew (.not a)), r.2) := rfl
theorem ret_cmp (op : COp) (a b : CE) : sx P n0 (.ret (.cmp op a b)) ρ S = (ev P (.cmp op a b) (frz n0 ρ S) (S.take n0)).bind fun r => match r.1 with
      | .d x => if r.2.length = n0 then some (.rt x (isNew (.cmp op a b)) r.2) else none
      | _ => none := ret_plain rfl rfl
theorem evn_cmp (op : COp) (a b : CE) : evn P (.cmp op a b) ρ S = (ev P (.cmp op a b) ρ S).map fun r => ((r.1, isNew (.cmp op a b)), r.2) := rfl
theorem ret_chain (o1 o2 : COp) (a b c : CE) : sx P n0 (.ret (.chain o1 o2 a b c)) ρ S = (ev P (.chain o1 o2 a b c) (frz n0 ρ S) (S.take n0)).bind fun r => match r.1 with
      | .d x => if r.2.length = n0 then some (.rt x (isNew (.chain o1 o2 a b c)) r.2) else none
      | _ => none := ret_plain rfl rfl
theorem evn_chain (o1 o2 : COp) (a b c : CE) : evn P (.chain o1 o2 a b c) ρ S = (ev P (.chain o1 o2 a b c) ρ S).map fun r => ((r.1, isNew (.chain o1 o2 a b c)), r.2) := rfl
theorem ret_and (a b : CE) : sx P n0 (.ret (.and a b)) ρ S = (ev P (.and a b) (frz n0 ρ S) (S.take n0)).bind fun r => match r.1 with
      | .d x => if r.2.length = n0 then some (.rt x (isNew (.and a b)) r.2) else none
      | _ => none := ret_plain rfl rfl
theorem evn_and (a b : CE) : evn P (.and a b) ρ S = (ev P (.and a b) ρ S).map fun r => ((r.1, isNew (.and a b)), r.2) := rfl
theorem ret_or (a b : CE) : sx P n0 (.ret (.or a b)) ρ S = (ev P (.or a b) (frz n0 ρ S) (S.take n0)).bind fun r => match r.1 with
      | .d x => if r.2.length = n0 then some (.rt x (isNew (.or a b)) r.2) else none
      | _ => none := ret_plain rfl rfl
theorem evn_or (a b : CE) : evn P (.or a b) ρ S = (ev P (.or a b) ρ S).map fun r => ((r.1, isNew (.or a b)), r.2) := rfl
theorem ret_ite (c a b : CE) : sx P n0 (.ret (.ite c a b)) ρ S = (ev P (.ite c a b) (frz n0 ρ S) (S.take n0)).bind fun r => match r.1 with
      | .d x => if r.2.length = n0 then some (.rt x (isNew (.ite c a b)) r.2) else none
      | _ => none := ret_plain rfl rfl
theorem evn_ite (c a b : CE) : evn P (.ite c a b) ρ S = (ev P (.ite c a b) ρ S).map fun r => ((r.1, isNew (.ite c a b)), r.2) := rfl
theorem ret_ix (a b : CE) : sx P n0 (.ret (.ix a b)) ρ S = (ev P (.ix a b) (frz n0 ρ S) (S.take n0)).bind fun r => match r.1 with
      | .d x => if r.2.length = n0 then some (.rt x (isNew (.ix a b)) r.2) else none
      | _ => none := ret_plain rfl rfl
theorem evn_ix (a b : CE) : evn P (.ix a b) ρ S = (ev P (.ix a b) ρ S).map fun r => ((r.1, isNew (.ix a b)), r.2) := rfl
theorem ret_sl (a b c : CE) : sx P n0 (.ret (.sl a b c)) ρ S = (ev P (.sl a b c) (frz n0 ρ S) (S.take n0)).bind fun r => match r.1 with
      | .d x => if r.2.length = n0 then some (.rt x (isNew (.sl a b c)) r.2) else none
      | _ => none := ret_plain rfl rfl
theorem evn_sl (a b c : CE) : evn P (.sl a b c) ρ S = (ev P (.sl a b c) ρ S).map fun r => ((r.1, isNew (.sl a b c)), r.2) := rfl
theorem ret_bf (f : Bf) (es : List CE) : sx P n0 (.ret (.bf f es)) ρ S = (ev P (.bf f es) (frz n0 ρ S) (S.take n0)).bind fun r => match r.1 with
      | .d x => if r.2.length = n0 then some (.rt x (isNew (.bf f es)) r.2) else none
      | _ => none := ret_plain rfl rfl
theorem evn_bf (f : Bf) (es : List CE) : evn P (.bf f es) ρ S = (ev P (.bf f es) ρ S).map fun r => ((r.1, isNew (.bf f es)), r.2) := rfl
theorem ret_met (m : Mt) (o : CE) (es : List CE) : sx P n0 (.ret (.met m o es)) ρ S = (ev P (.met m o es) (frz n0 ρ S) (S.take n0)).bind fun r => match r.1 with
      | .d x => if r.2.length = n0 then some (.rt x (isNew (.met m o es)) r.2) else none
      | _ => none := ret_plain rfl rfl
theorem evn_met (m : Mt) (o : CE) (es : List CE) : evn P (.met m o es) ρ S = (ev P (.met m o es) ρ S).map fun r => ((r.1, isNew (.met m o es)), r.2) := rfl
theorem ret_comp (own : List Nat) (p : Pat) (it : CE) (ifs : List CE) (elt : CE) : sx P n0 (.ret (.comp own p it ifs elt)) ρ S = (ev P (.comp own p it ifs elt) (frz n0 ρ S) (S.take n0)).bind fun r => match r.1 with
      | .d x => if r.2.length = n0 then some (.rt x (isNew (.comp own p it ifs elt)) r.2) else none
      | _ => none := ret_plain rfl rfl
theorem evn_comp (own : List Nat) (p : Pat) (it : CE) (ifs : List CE) (elt : CE) : evn P (.comp own p it ifs elt) ρ S = (ev P (.comp own p it ifs elt) ρ S).map fun r => ((r.1, isNew (.comp own p it ifs elt)), r.2) := rfl
theorem ret_cst (x : PyData) : sx P n0 (.ret (.cst x)) ρ S = (ev P (.cst x) (frz n0 ρ S) (S.take n0)).bind fun r => match r.1 with
      | .d x => if r.2.length = n0 then some (.rt x (isNew (.cst x)) r.2) else none
      | _ => none := ret_plain rfl rfl
theorem evn_cst (x : PyData) : evn P (.cst x) ρ S = (ev P (.cst x) ρ S).map fun r => ((r.1, isNew (.cst x)), r.2) := rfl
theorem ret_call (f : Nat) (es : List CE) : sx P n0 (.ret (.call f es)) ρ S = (evn P (.call f es) (frz n0 ρ S) (S.take n0)).bind fun r => match r.1.1 with
      | .d x => if r.2.length = n0 then some (.rt x r.1.2 r.2) else none
      | _ => none := sx_retE rfl
end
/-! values, by form -/
section
variable {P : Prm} {ρ : Ev} {S : Store}
theorem ev_var (i : Nat) : ev P (.var i) ρ S = (ρ[i]?.bind id).map fun v => (v, S) := by rw [ev]
theorem ev_cst (x : PyData) : ev P (.cst x) ρ S = some (.d x, S) := by rw [ev]
theorem ev_tup (es : List CE) : ev P (.tup es) ρ S = (evs P es ρ S).bind fun r => if r.1.length ≤ line then some (.d (.tuple r.1), r.2) else none := by rw [ev]
theorem ev_lst (es : List CE) : ev P (.lst es) ρ S = (evs P es ρ S).bind fun r => if r.1.length ≤ line then some (.d (.list r.1), r.2) else none := by rw [ev]
theorem ev_bin (op : BOp) (a : CE) (b : CE) : ev P (.bin op a b) ρ S = vd (op2 (ev P a ρ S) (ev P b ρ) (binD op)) := by rw [ev]
theorem ev_neg (a : CE) : ev P (.neg a) ρ S = vd (op1 (ev P a ρ S) fun x => (intD x).map fun i => .int (-i)) := by rw [ev]
theorem ev_not (a : CE) : ev P (.not a) ρ S = vb (op1 (ev P a ρ S) fun x => (truD x).map fun b => !b) := by rw [ev]
theorem ev_cmp (op : COp) (a : CE) (b : CE) : ev P (.cmp op a b) ρ S = vb (op2 (ev P a ρ S) (ev P b ρ) (cmpD op)) := by rw [ev]
theorem ev_chain (op1 : COp) (op2 : COp) (a : CE) (b : CE) (c : CE) : ev P (.chain op1 op2 a b c) ρ S = (ev P a ρ S).bind fun r => (ev P b ρ r.2).bind fun q => (deref q.2 r.1).bind fun x => (deref q.2 q.1).bind fun y => (cmpD op1 x y).bind fun k =>
      if k = true then (ev P c ρ q.2).bind fun s => (deref s.2 q.1).bind fun y' => (deref s.2 s.1).bind fun z => (cmpD op2 y' z).map fun k => (.d (.bool k), s.2) else some (.d (.bool false), q.2) := by rw [ev]
theorem ev_and (a : CE) (b : CE) : ev P (.and a b) ρ S = (ev P a ρ S).bind fun r => (deref r.2 r.1).bind fun x => (truD x).bind fun k => if k = true then ev P b ρ r.2 else some r := by rw [ev]
theorem ev_or (a : CE) (b : CE) : ev P (.or a b) ρ S = (ev P a ρ S).bind fun r => (deref r.2 r.1).bind fun x => (truD x).bind fun k => if k = true then some r else ev P b ρ r.2 := by rw [ev]
theorem ev_ite (c : CE) (a : CE) (b : CE) : ev P (.ite c a b) ρ S = (op1 (ev P c ρ S) truD).bind fun k => if k.1 = true then ev P a ρ k.2 else ev P b ρ k.2 := by rw [ev]
theorem ev_ix (a : CE) (i : CE) : ev P (.ix a i) ρ S = vd (op2 (ev P a ρ S) (ev P i ρ) ixD) := by rw [ev]
theorem ev_sl (a : CE) (lo : CE) (hi : CE) : ev P (.sl a lo hi) ρ S = (ev P a ρ S).bind fun r =>
      (match lo with
        | .no => some (none, r.2)
        | _ => part (op1 (ev P lo ρ r.2) intD)).bind fun l =>
      (match hi with
        | .no => some (none, l.2)
        | _ => part (op1 (ev P hi ρ l.2) intD)).bind fun u => (deref u.2 r.1).bind fun x => (slD x l.1 u.1).map fun z => (.d z, u.2) := by cases lo <;> cases hi <;> rfl
theorem ev_back (a : CE) : ev P (.back a) ρ S = vd (op1 (ev P a ρ S) backD) := by rw [ev]
theorem ev_call (f : Nat) (es : List CE) : ev P (.call f es) ρ S = (evp P es ρ S).bind fun r => (callC P.C (P.refs f) f r.1 r.2).map fun q => (.d q.1, q.2.2) := by rw [ev]
theorem ev_bf (f : Bf) (es : List CE) : ev P (.bf f es) ρ S = (evp P es ρ S).bind fun r => (derefs r.2 r.1).bind fun xs => (bfD f xs).map fun x => (.d x, r.2) := by rw [ev]
theorem ev_met (m : Mt) (o : CE) (es : List CE) : ev P (.met m o es) ρ S = (ev P o ρ S).bind fun r => match r.1 with
    | .r n => if isLst r.2 n = true then (evs P es ρ r.2).bind fun q => metS m n q.1 q.2 else none
    | .d x => (evs P es ρ r.2).bind fun q => (metV m x q.1).map fun z => (.d z, q.2) := by rw [ev] <;> rfl
end
end Cr

/-! ## CrU -/
set_option Elab.async false
set_option linter.all false
set_option autoImplicit false
set_option maxRecDepth 100000
set_option maxHeartbeats 4000000
/-! CrU: ridges, sights, reaches: plain numbers. -/
namespace Cr
open PySem

def minF (f o : Rat) : Rat := if o < f then o else f
def maxF (f o : Rat) : Rat := if f < o then o else f
def minL : List Rat → Rat
  | [] => 0
  | x :: xs => xs.foldl minF x
def maxL : List Rat → Rat
  | [] => 0
  | x :: xs => xs.foldl maxF x
theorem minF_self (x : Rat) : minF x x = x := by unfold minF; split <;> rfl
theorem maxF_self (x : Rat) : maxF x x = x := by unfold maxF; split <;> rfl
theorem minF_fold : ∀ (xs : List Rat) (x : Rat), xs.foldl minF x ≤ x ∧ (∀ y ∈ xs, xs.foldl minF x ≤ y) ∧ (xs.foldl minF x = x ∨ xs.foldl minF x ∈ xs)
  | [], x => ⟨Rat.le_refl, by simp, .inl rfl⟩
  | z :: xs, x => by
    obtain ⟨h1, h2, h3⟩ := minF_fold xs (minF x z)
    rw [List.foldl_cons]
    have a1 : minF x z ≤ x := by unfold minF; split <;> grind
    have a2 : minF x z ≤ z := by unfold minF; split <;> grind
    have a3 : minF x z = x ∨ minF x z = z := by unfold minF; split <;> simp
    refine ⟨Rat.le_trans h1 a1, fun y hy => ?_, ?_⟩
    · rcases List.mem_cons.mp hy with rfl | hy
      · exact Rat.le_trans h1 a2
      · exact h2 y hy
    · rcases h3 with h3 | h3
      · rcases a3 with a3 | a3
        · exact .inl (h3.trans a3)
        · exact .inr (by rw [h3, a3]; exact List.mem_cons_self)
      · exact .inr (List.mem_cons_of_mem _ h3)
theorem maxF_fold : ∀ (xs : List Rat) (x : Rat), x ≤ xs.foldl maxF x ∧ (∀ y ∈ xs, y ≤ xs.foldl maxF x) ∧ (xs.foldl maxF x = x ∨ xs.foldl maxF x ∈ xs)
  | [], x => ⟨Rat.le_refl, by simp, .inl rfl⟩
  | z :: xs, x => by
    obtain ⟨h1, h2, h3⟩ := maxF_fold xs (maxF x z)
    rw [List.foldl_cons]
    have a1 : x ≤ maxF x z := by unfold maxF; split <;> grind
    have a2 : z ≤ maxF x z := by unfold maxF; split <;> grind
    have a3 : maxF x z = x ∨ maxF x z = z := by unfold maxF; split <;> simp
    refine ⟨Rat.le_trans a1 h1, fun y hy => ?_, ?_⟩
    · rcases List.mem_cons.mp hy with rfl | hy
      · exact Rat.le_trans a2 h1
      · exact h2 y hy
    · rcases h3 with h3 | h3
      · rcases a3 with a3 | a3
        · exact .inl (h3.trans a3)
        · exact .inr (by rw [h3, a3]; exact List.mem_cons_self)
      · exact .inr (List.mem_cons_of_mem _ h3)
theorem minL_le {xs : List Rat} {y : Rat} (h : y ∈ xs) : minL xs ≤ y := by
  cases xs with
  | nil => cases h
  | cons x xs =>
    rcases List.mem_cons.mp h with rfl | h
    · exact (minF_fold xs y).1
    · exact (minF_fold xs x).2.1 y h
theorem le_maxL {xs : List Rat} {y : Rat} (h : y ∈ xs) : y ≤ maxL xs := by
  cases xs with
  | nil => cases h
  | cons x xs =>
    rcases List.mem_cons.mp h with rfl | h
    · exact (maxF_fold xs y).1
    · exact (maxF_fold xs x).2.1 y h
theorem minL_mem {xs : List Rat} (h : xs ≠ []) : minL xs ∈ xs := by
  cases xs with
  | nil => exact absurd rfl h
  | cons x xs =>
    rcases (minF_fold xs x).2.2 with e | e
    · exact List.mem_cons.mpr (.inl e)
    · exact List.mem_cons_of_mem _ e
theorem maxL_mem {xs : List Rat} (h : xs ≠ []) : maxL xs ∈ xs := by
  cases xs with
  | nil => exact absurd rfl h
  | cons x xs =>
    rcases (maxF_fold xs x).2.2 with e | e
    · exact List.mem_cons.mpr (.inl e)
    · exact List.mem_cons_of_mem _ e

/-- the height at x, the place at y, of the line through a and b; the spot at share t -/
def hgt (a b : Pt) (x : Rat) : Rat := a.2 + (x - a.1) / (b.1 - a.1) * (b.2 - a.2)
def plc (a b : Pt) (y : Rat) : Rat := a.1 + (y - a.2) / (b.2 - a.2) * (b.1 - a.1)
def mid (a b : Pt) (t : Rat) : Pt := (a.1 + t * (b.1 - a.1), a.2 + t * (b.2 - a.2))
def szp (n : Nat) (p : Pt) : Prop := sz n p.1 ∧ sz n p.2
/-- does the corner c bar the sight from (x, h) to s -/
def barC (h x : Rat) (s c : Pt) : Bool := if x < s.1 then decide (x < c.1) && decide (c.1 < s.1) && decide (hgt (x, h) s c.1 < c.2) else decide (s.1 < c.1) && decide (c.1 < x) && decide (hgt (x, h) s c.1 < c.2)
/-- the places of what p picks -/
def idxs (p : Pt → Bool) : Nat → List Pt → List Nat
  | _, [] => []
  | k, c :: r => if p c = true then k :: idxs p (k + 1) r else idxs p (k + 1) r
/-- the corners that bar, none for a spot below the drone -/
def bars (r : List Pt) (h x : Rat) (s : Pt) : List Nat := if x = s.1 then [] else idxs (barC h x s) 0 r
def seesB (r : List Pt) (h x : Rat) (s : Pt) : Bool := decide (bars r h x s = [])
/-- what bounds a reach -/
def leftC (s c : Pt) : Bool := decide (s.2 < c.2) && decide (c.1 < s.1)
def rightC (s c : Pt) : Bool := decide (s.2 < c.2) && decide (s.1 < c.1)
def firstX (r : List Pt) : Rat := (r.head?.map (·.1)).getD 0
def lastX (r : List Pt) : Rat := (r.getLast?.map (·.1)).getD 0
def lo (r : List Pt) (h : Rat) (s : Pt) : Rat := maxL (firstX r :: (r.filter (leftC s)).map fun c => plc s c h)
def hi (r : List Pt) (h : Rat) (s : Pt) : Rat := minL (lastX r :: (r.filter (rightC s)).map fun c => plc s c h)

theorem idxs_nil {p : Pt → Bool} : ∀ {k : Nat} {r : List Pt}, idxs p k r = [] ↔ ∀ c ∈ r, p c = false
  | k, [] => by simp [idxs]
  | k, c :: r => by
    unfold idxs
    split
    · rename_i h
      simp [h]
    · rename_i h
      rw [idxs_nil]
      simp at h
      simp [h]
theorem seesB_iff {r : List Pt} {h x : Rat} {s : Pt} : seesB r h x s = true ↔ x = s.1 ∨ ∀ c ∈ r, barC h x s c = false := by
  unfold seesB bars
  rw [decide_eq_true_iff]
  by_cases e : x = s.1
  · simp [e]
  · simp [e, idxs_nil]
/-- the core's look at these -/
theorem sp_fold (x y : Rat) : PyData.tuple [fr x, fr y] = sp (x, y) := rfl
theorem ix_tup (xs : List PyData) (k : Int) : ixD (.tuple xs) (.int k) = (Cr.ixN xs.length k).bind fun j => xs[j]? := rfl
theorem ix_list (xs : List PyData) (k : Int) : ixD (.list xs) (.int k) = (Cr.ixN xs.length k).bind fun j => xs[j]? := rfl
theorem ix_fr0 (q : Rat) : ixD (fr q) (.int 0) = some (.int q.num) := rfl
theorem ix_fr1 (q : Rat) : ixD (fr q) (.int 1) = some (.int q.den) := rfl
theorem ix_sp0 (p : Pt) : ixD (sp p) (.int 0) = some (fr p.1) := rfl
theorem ix_sp1 (p : Pt) : ixD (sp p) (.int 1) = some (fr p.2) := rfl
theorem ix_gsp0 (p : Nat × Rat) : ixD (gsp p) (.int 0) = some (.int p.1) := rfl
theorem ix_gsp1 (p : Nat × Rat) : ixD (gsp p) (.int 1) = some (fr p.2) := rfl
theorem ixN_nat {n i : Nat} (h : i < n) : Cr.ixN n (i : Int) = some i := by
  unfold Cr.ixN
  rw [if_pos (by omega), if_pos (by omega)]
  simp
theorem ix_at {D : PyData} {xs : List PyData} {i : Nat} {x : PyData} (hD : items D = some xs) (h : xs[i]? = some x) : ixD D (.int (i : Int)) = some x := by
  show ((items D).bind fun xs => (Cr.ixN xs.length (i : Int)).bind fun j => xs[j]?) = _
  rw [hD]
  simp [ixN_nat (List.getElem?_eq_some_iff.mp h).1, h]
theorem ix_at1 {D : PyData} {xs : List PyData} {i : Nat} {x : PyData} (hD : items D = some xs) (h : xs[i + 1]? = some x) : ixD D (.int ((i : Int) + 1)) = some x := by
  have := ix_at hD h
  rwa [show ((i + 1 : Nat) : Int) = (i : Int) + 1 by omega] at this
theorem ix_last {D : PyData} {xs : List PyData} {x : PyData} (hD : items D = some xs) (h : xs.getLast? = some x) : ixD D (.int (-1)) = some x := by
  show ((items D).bind fun xs => (Cr.ixN xs.length (-1)).bind fun j => xs[j]?) = _
  rw [hD]
  have hl : 0 < xs.length := by
    cases xs with
    | nil => simp at h
    | cons _ _ => simp
  rw [List.getLast?_eq_getElem?] at h
  have e : Cr.ixN xs.length (-1) = some (xs.length - 1) := by
    unfold Cr.ixN
    rw [if_neg (by omega), if_pos (by omega)]
    congr 1
    omega
  simp [e, h]
theorem rg_at {r : List Pt} {i : Nat} {a : Pt} (h : r[i]? = some a) : ixD (rg r) (.int (i : Int)) = some (sp a) := ix_at (items_rg r) (by rw [List.getElem?_map, h]; rfl)
theorem rg_at1 {r : List Pt} {i : Nat} {a : Pt} (h : r[i + 1]? = some a) : ixD (rg r) (.int ((i : Int) + 1)) = some (sp a) := ix_at1 (items_rg r) (by rw [List.getElem?_map, h]; rfl)
theorem rg_last {r : List Pt} {a : Pt} (h : r.getLast? = some a) : ixD (rg r) (.int (-1)) = some (sp a) := ix_last (items_rg r) (by rw [List.getLast?_map, h]; rfl)
theorem rg_head {r : List Pt} {a : Pt} (h : r.head? = some a) : ixD (rg r) (.int 0) = some (sp a) := by
  have : r[0]? = some a := by rw [← h]; cases r <;> rfl
  exact rg_at (i := 0) this
theorem shp_ints (js : List Nat) : shpAll 11 (js.map fun j : Nat => PyData.int (j : Int)) = true := by
  induction js with
  | nil => rfl
  | cons j js ih => simp [shpAll, shp, ih]
theorem cmp_eq_nil (js : List Nat) : cmpD .eq (.tuple (js.map fun j : Nat => PyData.int (j : Int))) (.tuple []) = some (decide (js = [])) := by
  cases js with
  | nil => simp [cmpD, shp, shpAll, PyData.eqv, PyData.eqvAll]
  | cons j js =>
    have := shp_ints js
    simp [cmpD, shp, shpAll, this, PyData.eqv, PyData.eqvAll]

theorem bd_nm (i : Nat) (x : PyData) (ρ : Ev) : bd (.nm i) x ρ = some (ρ.set i (some (.d x))) := by rw [bd]
theorem bd_tup (ps : List Pat) (xs : List PyData) (ρ : Ev) : bd (.tup ps) (.tuple xs) ρ = bds ps xs ρ := by rw [bd]
theorem bds_nil (ρ : Ev) : bds [] [] ρ = some ρ := by rw [bds]
theorem bds_cons (p : Pat) (ps : List Pat) (x : PyData) (xs : List PyData) (ρ : Ev) : bds (p :: ps) (x :: xs) ρ = (bd p x ρ).bind (bds ps xs) := by rw [bds]

/-- a place with the corner that it is through -/
def pkd (q : Rat × Nat) : PyData := .tuple [fr q.1, .int q.2]
def plcI (p : Pt → Bool) (s : Pt) (h : Rat) : Nat → List Pt → List (Rat × Nat)
  | _, [] => []
  | k, c :: r => if p c = true then (plc s c h, k) :: plcI p s h (k + 1) r else plcI p s h (k + 1) r
theorem plcI_fst {p : Pt → Bool} {s : Pt} {h : Rat} : ∀ {k : Nat} {r : List Pt}, (plcI p s h k r).map (·.1) = (r.filter p).map fun c => plc s c h
  | k, [] => rfl
  | k, c :: r => by
    unfold plcI
    rw [List.filter_cons]
    split
    · rw [List.map_cons, List.map_cons, plcI_fst]
    · exact plcI_fst
theorem plcI_len {p : Pt → Bool} {s : Pt} {h : Rat} : ∀ {k : Nat} {r : List Pt}, (plcI p s h k r).length ≤ r.length
  | k, [] => Nat.le_refl _
  | k, c :: r => by
    unfold plcI
    have := @plcI_len p s h (k + 1) r
    split <;> simp <;> omega
theorem bd_pkd (ps : List Pat) (q : Rat × Nat) (ρ : Ev) : bd (.tup ps) (pkd q) ρ = bds ps [fr q.1, .int q.2] ρ := by
  show bd (.tup ps) (.tuple _) ρ = _
  rw [bd]
theorem firstX_of {r : List Pt} {a : Pt} (h : r.head? = some a) : firstX r = a.1 := by simp [firstX, h]
theorem lastX_of {r : List Pt} {a : Pt} (h : r.getLast? = some a) : lastX r = a.1 := by simp [lastX, h]

/-! the law's own forms -/
theorem quo_mul {a b c : Rat} (h : c ≠ 0) : a / c * b = a * b / c := by
  rw [Rat.div_def, Rat.div_def]
  grind
theorem plc_law {s c : Pt} {h : Rat} (h0 : c.2 - s.2 ≠ 0) : s.1 + (h - s.2) * (c.1 - s.1) / (c.2 - s.2) = plc s c h := by
  unfold plc
  rw [quo_mul h0]
theorem under_iff {a b : Pt} {x y : Rat} (h : 0 < b.1 - a.1) : hgt a b x < y ↔ (b.2 - a.2) * (x - a.1) < (b.1 - a.1) * (y - a.2) := by
  unfold hgt
  have hn : b.1 - a.1 ≠ 0 := by grind
  rw [quo_mul hn]
  have e : a.2 + (x - a.1) * (b.2 - a.2) / (b.1 - a.1) < y ↔ (x - a.1) * (b.2 - a.2) / (b.1 - a.1) < y - a.2 := by grind
  rw [e, Rat.div_lt_iff' h, Rat.mul_comm]
theorem under_iff' {a b : Pt} {x y : Rat} (h : 0 < a.1 - b.1) : hgt a b x < y ↔ (a.2 - b.2) * (x - b.1) < (a.1 - b.1) * (y - b.2) := by
  have e : hgt a b x = hgt b a x := by
    unfold hgt
    have h1 : b.1 - a.1 ≠ 0 := by grind
    have h2 : a.1 - b.1 ≠ 0 := by grind
    rw [quo_mul h1, quo_mul h2]
    have e1 : (x - a.1) * (b.2 - a.2) / (b.1 - a.1) = (x - a.1) * (a.2 - b.2) / (a.1 - b.1) := by
      have : b.1 - a.1 = -(a.1 - b.1) := by grind
      rw [Rat.div_def, Rat.div_def, this]
      have : (-(a.1 - b.1))⁻¹ = -((a.1 - b.1)⁻¹) := by grind
      rw [this]
      grind
    rw [e1]
    have e2 : (x - a.1) * (a.2 - b.2) = (x - b.1) * (a.2 - b.2) - (a.1 - b.1) * (a.2 - b.2) := by grind
    rw [e2, Rat.div_def, Rat.div_def]
    have := Rat.mul_inv_cancel _ h2
    grind
  rw [e, under_iff h]

/-! ### ground spots and their reaches -/
def spotR (r : List Pt) (g : Nat × Rat) : Pt := mid (r.getD g.1 (0, 0)) (r.getD (g.1 + 1) (0, 0)) g.2
def reachR (r : List Pt) (h : Rat) (g : Nat × Rat) : Pt := (lo r h (spotR r g), hi r h (spotR r g))
structure GOk (r : List Pt) (k : Nat) (g : Nat × Rat) : Prop where
  ix : g.1 + 1 < r.length
  sz : sz k g.2
theorem GOk.a {r : List Pt} {k : Nat} {g : Nat × Rat} (h : GOk r k g) : r[g.1]? = some (r.getD g.1 (0, 0)) := by
  have := h.ix
  rw [List.getD_eq_getElem?_getD, List.getElem?_eq_getElem (by omega)]
  rfl
theorem GOk.b {r : List Pt} {k : Nat} {g : Nat × Rat} (h : GOk r k g) : r[g.1 + 1]? = some (r.getD (g.1 + 1) (0, 0)) := by
  have := h.ix
  rw [List.getD_eq_getElem?_getD, List.getElem?_eq_getElem (by omega)]
  rfl
def apartB (a b : Pt) : Bool := decide (a.2 < b.1) || decide (b.2 < a.1)
def innerF (one : Pt) : Nat → List Pt → Option Nat
  | _, [] => none
  | k, b :: r => if apartB one b = true then some k else innerF one (k + 1) r
def outerF : Nat → List Pt → Option (Nat × Nat)
  | _, [] => none
  | j, a :: r => match innerF a (j + 1) r with
    | some k => some (j, k)
    | none => outerF (j + 1) r
def areF (pre : List Pt) : List Pt → Bool
  | [] => true
  | one :: r => pre.all (apartB one) && areF (pre ++ [one]) r
def endsB (a b : Pt) : Bool := decide (a.2 < b.2) || (decide (a.2 = b.2) && decide (a.1 < b.1))
/-- where x is put in among the first n of l -/
def posI (x : Pt) (l : List Pt) : Nat → Nat
  | 0 => 0
  | n + 1 => if endsB x (l.getD n (0, 0)) = true then posI x l n else n + 1
theorem posI_le (x : Pt) (l : List Pt) : ∀ n, posI x l n ≤ n
  | 0 => Nat.le_refl _
  | n + 1 => by
    unfold posI
    have := posI_le x l n
    split <;> omega
def insI (f : Nat × Rat → Pt) (l : List (Nat × Rat)) (g : Nat × Rat) : List (Nat × Rat) := l.take (posI (f g) (l.map f) l.length) ++ [g] ++ l.drop (posI (f g) (l.map f) l.length)
def rowI (f : Nat × Rat → Pt) (gs : List (Nat × Rat)) : List (Nat × Rat) := gs.foldl (insI f) []
theorem insI_len (f : Nat × Rat → Pt) (l : List (Nat × Rat)) (g : Nat × Rat) : (insI f l g).length = l.length + 1 := by
  unfold insI
  have := posI_le (f g) (l.map f) l.length
  simp
  omega
theorem rangeL_cons {lo hi : Int} (h : lo < hi) : rangeL lo hi = .int lo :: rangeL (lo + 1) hi := by
  unfold rangeL
  have e : (hi - lo).toNat = (hi - (lo + 1)).toNat + 1 := by omega
  rw [e, List.range_succ_eq_map, List.map_cons, List.map_map]
  simp
  intro a _
  omega
theorem rangeL_nil {lo hi : Int} (h : hi ≤ lo) : rangeL lo hi = [] := by
  unfold rangeL
  have e : (hi - lo).toNat = 0 := by omega
  rw [e]
  rfl
theorem comp_sp1 {P : Prm} {ρ : Ev} {S : Store} {v i j : Nat} {L : List Pt} (hi : i < ρ.length) (hij : i ≠ j) (hv : ρ[v]? = some (some (.d (.list (L.map sp))))) (hl : L.length ≤ 1000) :
    ev P (.comp [i, j] (.tup [(.nm i), (.nm j)]) (.var v) [] (.var i)) ρ S = some (.d (.list ((L.map (·.1)).map fr)), S) := by
  have he : evi P (.var v) ρ S = some ((L.map sp, still (.d (.list (L.map sp))) (L.map sp)), S) := by
    simp [evi, itV, ev_var, deref, hv, items_list]
  have hm : (L.flatMap fun q => [fr q.1]) = (L.map (·.1)).map fr := by rw [flatMap_one, List.map_map]; rfl
  rw [← hm]
  refine comp_map he trivial ?_ fun q _ => ?_
  · rw [flatMap_one, List.length_map]
    show L.length ≤ 16777216
    omega
  · have e1 : ((((wipeE ρ [i, j]).set i (some (.d (fr q.1)))).set j (some (.d (fr q.2))))[i]?) = some (some (.d (fr q.1))) := by
      rw [List.getElem?_set_ne (Ne.symm hij), List.getElem?_set_self]
      simp [wipeE, hi]
    simp [turnC, eltC, bd_sp, bds_cons, bds_nil, bd_nm, evt, ev_var, e1, dt]
theorem comp_sp2 {P : Prm} {ρ : Ev} {S : Store} {v i j : Nat} {L : List Pt} (hj : j < ρ.length) (hv : ρ[v]? = some (some (.d (.list (L.map sp))))) (hl : L.length ≤ 1000) :
    ev P (.comp [i, j] (.tup [(.nm i), (.nm j)]) (.var v) [] (.var j)) ρ S = some (.d (.list ((L.map (·.2)).map fr)), S) := by
  have he : evi P (.var v) ρ S = some ((L.map sp, still (.d (.list (L.map sp))) (L.map sp)), S) := by
    simp [evi, itV, ev_var, deref, hv, items_list]
  have hm : (L.flatMap fun q => [fr q.2]) = (L.map (·.2)).map fr := by rw [flatMap_one, List.map_map]; rfl
  rw [← hm]
  refine comp_map he trivial ?_ fun q _ => ?_
  · rw [flatMap_one, List.length_map]
    show L.length ≤ 16777216
    omega
  · have e1 : ((((wipeE ρ [i, j]).set i (some (.d (fr q.1)))).set j (some (.d (fr q.2))))[j]?) = some (some (.d (fr q.2))) := by
      rw [List.getElem?_set_self]
      simp [wipeE, hj]
    simp [turnC, eltC, bd_sp, bds_cons, bds_nil, bd_nm, evt, ev_var, e1, dt]

theorem rng_ok {i j : Int} (h1 : 0 ≤ i) (h2 : i < 1000000) (h3 : 0 ≤ j) (h4 : j < 1000000) : rngD (.int i) (.int j) = some (rangeL i j) := by
  show (if -(2 ^ 62) ≤ i ∧ i < 2 ^ 62 ∧ -(2 ^ 62) ≤ j ∧ j < 2 ^ 62 then some (rangeL i j) else none) = _
  have e : (2 : Int) ^ 62 = 4611686018427387904 := by decide
  rw [e, if_pos ⟨by omega, by omega, by omega, by omega⟩]

theorem itR_ok {ra : Option (PV × Store)} {rb : Store → Option (PV × Store)} {x y : PyData} {xs : List PyData} {S1 S2 : Store} (h1 : ra = some (.d x, S1)) (h2 : rb S1 = some (.d y, S2)) (h3 : rngD x y = some xs) : itR ra rb = some ((xs, fun _ => True), S2) := by
  unfold itR op2
  rw [h1]
  simp only [Option.bind_some]
  rw [h2]
  simp only [Option.bind_some, deref]
  rw [h3]
  rfl
theorem evi_rng {P : Prm} {a b : CE} {ρ : Ev} {S S1 S2 : Store} {x y : PyData} {xs : List PyData} (h1 : ev P a ρ S = some (.d x, S1)) (h2 : ev P b ρ S1 = some (.d y, S2)) (h3 : rngD x y = some xs) : evi P (.rng a b) ρ S = some ((xs, fun _ => True), S2) := by
  have e : evi P (.rng a b) ρ S = itR (ev P a ρ S) (ev P b ρ) := by unfold evi; rfl
  rw [e]
  exact itR_ok h1 h2 h3
end Cr

/-! ## CrV -/
set_option Elab.async false
set_option linter.all false
set_option autoImplicit false
set_option maxRecDepth 100000
set_option maxHeartbeats 4000000
/-! CrV: sights and reaches say the same. Plain numbers. -/
namespace Cr
open PySem

theorem plc_le {s c : Pt} {h x : Rat} (hC : 0 < c.2 - s.2) : plc s c h ≤ x ↔ (h - s.2) * (c.1 - s.1) ≤ (x - s.1) * (c.2 - s.2) := by
  rw [← plc_law (by grind)]
  have e : s.1 + (h - s.2) * (c.1 - s.1) / (c.2 - s.2) ≤ x ↔ (h - s.2) * (c.1 - s.1) / (c.2 - s.2) ≤ x - s.1 := by grind
  rw [e, ← Rat.not_lt, ← Rat.not_lt, Rat.lt_div_iff hC]
theorem le_plc {s c : Pt} {h x : Rat} (hC : 0 < c.2 - s.2) : x ≤ plc s c h ↔ (x - s.1) * (c.2 - s.2) ≤ (h - s.2) * (c.1 - s.1) := by
  rw [← plc_law (by grind)]
  have e : x ≤ s.1 + (h - s.2) * (c.1 - s.1) / (c.2 - s.2) ↔ x - s.1 ≤ (h - s.2) * (c.1 - s.1) / (c.2 - s.2) := by grind
  rw [e, ← Rat.not_lt, ← Rat.not_lt, Rat.div_lt_iff hC]
theorem maxL_le {xs : List Rat} {y : Rat} (hx : xs ≠ []) : maxL xs ≤ y ↔ ∀ x ∈ xs, x ≤ y :=
  ⟨fun h x hm => Rat.le_trans (le_maxL hm) h, fun h => h _ (maxL_mem hx)⟩
theorem le_minL {xs : List Rat} {y : Rat} (hx : xs ≠ []) : y ≤ minL xs ↔ ∀ x ∈ xs, y ≤ x :=
  ⟨fun h x hm => Rat.le_trans h (minL_le hm), fun h => h _ (minL_mem hx)⟩
theorem lo_le {r : List Pt} {h x : Rat} {s : Pt} : lo r h s ≤ x ↔ firstX r ≤ x ∧ ∀ c ∈ r, leftC s c = true → plc s c h ≤ x := by
  unfold lo
  rw [maxL_le (by simp)]
  simp only [List.mem_cons, List.mem_map, List.mem_filter]
  constructor
  · exact fun H => ⟨H _ (.inl rfl), fun c hc hl => H _ (.inr ⟨c, ⟨hc, hl⟩, rfl⟩)⟩
  · rintro ⟨h1, h2⟩ y (rfl | ⟨c, ⟨hc, hl⟩, rfl⟩)
    · exact h1
    · exact h2 c hc hl
theorem le_hi {r : List Pt} {h x : Rat} {s : Pt} : x ≤ hi r h s ↔ x ≤ lastX r ∧ ∀ c ∈ r, rightC s c = true → x ≤ plc s c h := by
  unfold hi
  rw [le_minL (by simp)]
  simp only [List.mem_cons, List.mem_map, List.mem_filter]
  constructor
  · exact fun H => ⟨H _ (.inl rfl), fun c hc hl => H _ (.inr ⟨c, ⟨hc, hl⟩, rfl⟩)⟩
  · rintro ⟨h1, h2⟩ y (rfl | ⟨c, ⟨hc, hl⟩, rfl⟩)
    · exact h1
    · exact h2 c hc hl
/-- a spot on the line lies in its own reach -/
theorem lo_self {r : List Pt} {h : Rat} {s : Pt} (hs : s.2 < h) (h1 : firstX r ≤ s.1) : lo r h s ≤ s.1 := by
  rw [lo_le]
  refine ⟨h1, fun c _ hl => ?_⟩
  simp only [leftC, Bool.and_eq_true, decide_eq_true_eq] at hl
  rw [plc_le (by grind)]
  have := Rat.mul_nonneg (a := h - s.2) (b := s.1 - c.1) (by grind) (by grind)
  grind
theorem self_hi {r : List Pt} {h : Rat} {s : Pt} (hs : s.2 < h) (h1 : s.1 ≤ lastX r) : s.1 ≤ hi r h s := by
  rw [le_hi]
  refine ⟨h1, fun c _ hl => ?_⟩
  simp only [rightC, Bool.and_eq_true, decide_eq_true_eq] at hl
  rw [le_plc (by grind)]
  have := Rat.mul_nonneg (a := h - s.2) (b := c.1 - s.1) (by grind) (by grind)
  grind
/-- one corner, the drone to the left of the spot -/
theorem barC_l {h x : Rat} {s c : Pt} (hx : x < s.1) (hs : s.2 < h) (hc : c.2 < h) : barC h x s c = false ↔ (leftC s c = true → plc s c h ≤ x) := by
  unfold barC
  rw [if_pos hx]
  have hb : 0 < s.1 - x := by grind
  have hH : 0 < h - s.2 := by grind
  by_cases hl : leftC s c = true
  · simp only [hl, true_implies]
    simp only [leftC, Bool.and_eq_true, decide_eq_true_eq] at hl
    have hC : 0 < c.2 - s.2 := by grind
    rw [plc_le hC]
    rw [← Bool.not_eq_true, Bool.and_eq_true, Bool.and_eq_true, decide_eq_true_eq, decide_eq_true_eq, decide_eq_true_eq]
    rw [under_iff (a := (x, h)) (b := s) hb]
    constructor
    · intro H
      by_cases q : x < c.1
      · have : ¬ (s.2 - h) * (c.1 - x) < (s.1 - x) * (c.2 - h) := fun w => H ⟨⟨q, hl.2⟩, w⟩
        grind
      · have m1 := Rat.mul_nonneg (a := h - s.2) (b := x - c.1) (by grind) (by grind)
        have m2 := Rat.mul_nonneg (a := s.1 - x) (b := h - c.2) (by grind) (by grind)
        grind
    · rintro H ⟨_, w⟩
      simp only at w
      grind
  · simp only [hl, false_implies, iff_true, Bool.false_eq_true]
    rw [← Bool.not_eq_true, Bool.and_eq_true, Bool.and_eq_true, decide_eq_true_eq, decide_eq_true_eq, decide_eq_true_eq]
    rw [under_iff (a := (x, h)) (b := s) hb]
    rintro ⟨⟨q1, q2⟩, w⟩
    have : ¬ s.2 < c.2 := fun z => hl (by simp [leftC, z, q2])
    have m1 := Rat.mul_nonneg (a := h - s.2) (b := s.1 - c.1) (by grind) (by grind)
    have m2 := Rat.mul_nonneg (a := s.1 - x) (b := s.2 - c.2) (by grind) (by grind)
    have m3 := Rat.mul_pos (a := h - s.2) (b := s.1 - c.1) (by grind) (by grind)
    simp only at w
    grind
theorem barC_r {h x : Rat} {s c : Pt} (hx : s.1 < x) (hs : s.2 < h) (hc : c.2 < h) : barC h x s c = false ↔ (rightC s c = true → x ≤ plc s c h) := by
  unfold barC
  rw [if_neg (by grind)]
  have hb : 0 < x - s.1 := by grind
  have hH : 0 < h - s.2 := by grind
  by_cases hl : rightC s c = true
  · simp only [hl, true_implies]
    simp only [rightC, Bool.and_eq_true, decide_eq_true_eq] at hl
    have hC : 0 < c.2 - s.2 := by grind
    rw [le_plc hC]
    rw [← Bool.not_eq_true, Bool.and_eq_true, Bool.and_eq_true, decide_eq_true_eq, decide_eq_true_eq, decide_eq_true_eq]
    rw [under_iff' (a := (x, h)) (b := s) hb]
    constructor
    · intro H
      by_cases q : c.1 < x
      · have : ¬ (h - s.2) * (c.1 - s.1) < (x - s.1) * (c.2 - s.2) := fun w => H ⟨⟨hl.2, q⟩, w⟩
        grind
      · have m1 := Rat.mul_nonneg (a := h - s.2) (b := c.1 - x) (by grind) (by grind)
        have m2 := Rat.mul_nonneg (a := x - s.1) (b := h - c.2) (by grind) (by grind)
        grind
    · rintro H ⟨_, w⟩
      simp only at w
      grind
  · simp only [hl, false_implies, iff_true, Bool.false_eq_true]
    rw [← Bool.not_eq_true, Bool.and_eq_true, Bool.and_eq_true, decide_eq_true_eq, decide_eq_true_eq, decide_eq_true_eq]
    rw [under_iff' (a := (x, h)) (b := s) hb]
    rintro ⟨⟨q1, q2⟩, w⟩
    have : ¬ s.2 < c.2 := fun z => hl (by simp [rightC, z, q1])
    have m2 := Rat.mul_nonneg (a := x - s.1) (b := s.2 - c.2) (by grind) (by grind)
    have m3 := Rat.mul_pos (a := h - s.2) (b := c.1 - s.1) (by grind) (by grind)
    simp only at w
    grind
/-- a drone on the line sees a spot exactly from within its reach -/
theorem sees_reach {r : List Pt} {h x : Rat} {s : Pt} (hr : ∀ c ∈ r, c.2 < h) (hs : s.2 < h) (f1 : firstX r ≤ s.1) (l1 : s.1 ≤ lastX r) (fx : firstX r ≤ x) (lx : x ≤ lastX r) :
    seesB r h x s = true ↔ lo r h s ≤ x ∧ x ≤ hi r h s := by
  rw [seesB_iff]
  have a1 := lo_self hs f1
  have a2 := self_hi hs l1
  by_cases e : x = s.1
  · subst e
    simp [a1, a2]
  · by_cases hx : x < s.1
    · have : x ≤ hi r h s := Rat.le_trans (Rat.le_of_lt hx) a2
      simp only [e, false_or, this, and_true]
      rw [lo_le]
      simp only [fx, true_and]
      exact ⟨fun H c hc => (barC_l hx hs (hr c hc)).mp (H c hc), fun H c hc => (barC_l hx hs (hr c hc)).mpr (H c hc)⟩
    · have hx : s.1 < x := by grind
      have : lo r h s ≤ x := Rat.le_trans a1 (Rat.le_of_lt hx)
      simp only [e, false_or, this, true_and]
      rw [le_hi]
      simp only [lx, true_and]
      exact ⟨fun H c hc => (barC_r hx hs (hr c hc)).mp (H c hc), fun H c hc => (barC_r hx hs (hr c hc)).mpr (H c hc)⟩
theorem first_lo {r : List Pt} {h : Rat} {s : Pt} : firstX r ≤ lo r h s := by
  unfold lo; exact le_maxL (by simp)
theorem hi_last {r : List Pt} {h : Rat} {s : Pt} : hi r h s ≤ lastX r := by
  unfold hi; exact minL_le (by simp)

/-! intervals -/
theorem innerF_none {one : Pt} : ∀ {k : Nat} {rs : List Pt}, innerF one k rs = none ↔ ∀ b ∈ rs, apartB one b = false
  | k, [] => by simp [innerF]
  | k, b :: r => by
    unfold innerF
    split
    · rename_i h; simp [h]
    · rename_i h
      rw [innerF_none]
      simp at h
      simp [h]
theorem innerF_some {one : Pt} : ∀ {k j : Nat} {rs : List Pt}, innerF one k rs = some j → k ≤ j ∧ ∃ b, rs[j - k]? = some b ∧ apartB one b = true
  | k, j, [], h => by simp [innerF] at h
  | k, j, b :: r, h => by
    unfold innerF at h
    split at h
    · rename_i q
      cases h
      exact ⟨by omega, b, by simp, q⟩
    · obtain ⟨h1, c, h2, h3⟩ := innerF_some h
      refine ⟨by omega, c, ?_, h3⟩
      rw [show j - k = (j - (k + 1)) + 1 by omega]
      simpa using h2
theorem outerF_none : ∀ {j : Nat} {rs : List Pt}, outerF j rs = none ↔ rs.Pairwise fun a b => apartB a b = false
  | j, [] => by simp [outerF]
  | j, a :: r => by
    unfold outerF
    rw [List.pairwise_cons]
    split
    · rename_i k h
      simp only [reduceCtorEq, false_iff, not_and]
      intro h1
      rw [innerF_none.mpr h1] at h
      cases h
    · rename_i h
      rw [outerF_none, innerF_none.mp h |> fun w => iff_true_intro w, true_and]
theorem outerF_some : ∀ {i j k : Nat} {rs : List Pt}, outerF i rs = some (j, k) → i ≤ j ∧ j < k ∧ ∃ a b, rs[j - i]? = some a ∧ rs[k - i]? = some b ∧ apartB a b = true
  | i, j, k, [], h => by simp [outerF] at h
  | i, j, k, a :: r, h => by
    unfold outerF at h
    split at h
    · rename_i k' q
      cases h
      obtain ⟨h1, b, h2, h3⟩ := innerF_some q
      refine ⟨by omega, by omega, a, b, by simp, ?_, h3⟩
      rw [show k - i = (k - (i + 1)) + 1 by omega]
      simpa using h2
    · obtain ⟨h1, h2, b, c, h3, h4, h5⟩ := outerF_some h
      refine ⟨by omega, h2, b, c, ?_, ?_, h5⟩
      · rw [show j - i = (j - (i + 1)) + 1 by omega]; simpa using h3
      · rw [show k - i = (k - (i + 1)) + 1 by omega]; simpa using h4
end Cr

/-! ## CrW -/
set_option Elab.async false
set_option linter.all false
set_option autoImplicit false
set_option maxRecDepth 100000
set_option maxHeartbeats 4000000
/-! CrW: stretches of a line: those that share two by two share all; those told off one after another. -/
namespace Cr
open PySem

theorem apartB_false {a b : Pt} : apartB a b = false ↔ b.1 ≤ a.2 ∧ a.1 ≤ b.2 := by
  unfold apartB
  rw [Bool.or_eq_false_iff, decide_eq_false_iff_not, decide_eq_false_iff_not, Rat.not_lt, Rat.not_lt]
theorem helly {rs : List Pt} (hn : rs ≠ []) (ho : ∀ a ∈ rs, a.1 ≤ a.2) : outerF 0 rs = none ↔ maxL (rs.map (·.1)) ≤ minL (rs.map (·.2)) := by
  rw [outerF_none, maxL_le (by simpa using hn)]
  constructor
  · intro H x hx
    rw [le_minL (by simpa using hn)]
    intro y hy
    obtain ⟨a, ha, rfl⟩ := List.mem_map.mp hx
    obtain ⟨b, hb, rfl⟩ := List.mem_map.mp hy
    have : ∀ a ∈ rs, ∀ b ∈ rs, a.1 ≤ b.2 := by
      apply List.Pairwise.forall_of_forall_of_flip (R := fun a b : Pt => a.1 ≤ b.2)
      · exact ho
      · exact H.imp fun h => (apartB_false.mp h).2
      · exact H.imp fun h => (apartB_false.mp h).1
    exact this a ha b hb
  · intro H
    rw [List.pairwise_iff_getElem]
    intro i j hi hj _
    rw [apartB_false]
    have q : ∀ a ∈ rs, ∀ b ∈ rs, a.1 ≤ b.2 := fun a ha b hb => (le_minL (by simpa using hn)).mp (H _ (List.mem_map.mpr ⟨a, ha, rfl⟩)) _ (List.mem_map.mpr ⟨b, hb, rfl⟩)
    exact ⟨q _ (List.getElem_mem hj) _ (List.getElem_mem hi), q _ (List.getElem_mem hi) _ (List.getElem_mem hj)⟩

theorem posI_spec (x : Pt) (l : List Pt) : ∀ n, (posI x l n = 0 ∨ (l.getD (posI x l n - 1) (0, 0)).2 ≤ x.2) ∧ ∀ i, posI x l n ≤ i → i < n → x.2 ≤ (l.getD i (0, 0)).2
  | 0 => ⟨.inl rfl, fun i _ h => absurd h (by omega)⟩
  | n + 1 => by
    unfold posI
    obtain ⟨h1, h2⟩ := posI_spec x l n
    split
    · rename_i h
      refine ⟨h1, fun i hi hn => ?_⟩
      by_cases e : i = n
      · subst e
        simp only [endsB, Bool.or_eq_true, Bool.and_eq_true, decide_eq_true_eq] at h
        grind
      · exact h2 i hi (by omega)
    · rename_i h
      refine ⟨.inr ?_, fun i hi hn => absurd hn (by omega)⟩
      simp only [endsB, Bool.or_eq_true, Bool.and_eq_true, decide_eq_true_eq] at h
      rw [Nat.add_sub_cancel]
      grind
theorem insI_sorted {f : Nat × Rat → Pt} {l : List (Nat × Rat)} {g : Nat × Rat} (h : l.Pairwise fun a b => (f a).2 ≤ (f b).2) : (insI f l g).Pairwise fun a b => (f a).2 ≤ (f b).2 := by
  unfold insI
  obtain ⟨s1, s2⟩ := posI_spec (f g) (l.map f) l.length
  have s3 := posI_le (f g) (l.map f) l.length
  generalize posI (f g) (l.map f) l.length = k at s1 s2 s3
  have ix : ∀ i, (hi : i < l.length) → (l.map f).getD i (0, 0) = f l[i] := fun i hi => by
    rw [List.getD_eq_getElem?_getD, List.getElem?_map, List.getElem?_eq_getElem hi]; rfl
  have b1 : ∀ a ∈ l.take k, (f a).2 ≤ (f g).2 := by
    intro a ha
    obtain ⟨i, hi, rfl⟩ := List.mem_take_iff_getElem.mp ha
    have hik : i < k := by omega
    have hil : i < l.length := by omega
    rcases s1 with s1 | s1
    · omega
    · rw [ix (k - 1) (by omega)] at s1
      refine Rat.le_trans ?_ s1
      by_cases e : i = k - 1
      · subst e; exact Rat.le_refl
      · exact List.pairwise_iff_getElem.mp h i (k - 1) hil (by omega) (by omega)
  have b2 : ∀ a ∈ l.drop k, (f g).2 ≤ (f a).2 := by
    intro a ha
    obtain ⟨i, hi, rfl⟩ := List.mem_drop_iff_getElem.mp ha
    have := s2 (k + i) (by omega) (by omega)
    rw [ix (k + i) (by omega)] at this
    exact this
  rw [List.append_assoc, List.pairwise_append]
  refine ⟨h.sublist (List.take_sublist k l), ?_, ?_⟩
  · rw [List.singleton_append, List.pairwise_cons]
    exact ⟨b2, h.sublist (List.drop_sublist k l)⟩
  · intro a ha b hb
    rw [List.singleton_append, List.mem_cons] at hb
    rcases hb with rfl | hb
    · exact b1 a ha
    · exact Rat.le_trans (b1 a ha) (b2 b hb)
theorem rowI_sorted {f : Nat × Rat → Pt} (gs : List (Nat × Rat)) : (rowI f gs).Pairwise fun a b => (f a).2 ≤ (f b).2 := by
  unfold rowI
  have : ∀ (gs l : List (Nat × Rat)), (l.Pairwise fun a b => (f a).2 ≤ (f b).2) → ((gs.foldl (insI f) l).Pairwise fun a b => (f a).2 ≤ (f b).2) := by
    intro gs
    induction gs with
    | nil => exact fun l h => h
    | cons g gs ih => exact fun l h => ih _ (insI_sorted h)
  exact this gs [] .nil
/-- one spot after another, taken if its reach begins past all ends so far -/
def tkI (f : Nat × Rat → Pt) (l : List (Nat × Rat)) (g : Nat × Rat) : List (Nat × Rat) := if (l.all fun i => decide ((f i).2 < (f g).1)) = true then l ++ [g] else l
def alnI (f : Nat × Rat → Pt) (gs : List (Nat × Rat)) : List (Nat × Rat) := gs.foldl (tkI f) []
theorem tkI_apart {f : Nat × Rat → Pt} {l : List (Nat × Rat)} {g : Nat × Rat} (h : l.Pairwise fun a b => (f a).2 < (f b).1) : (tkI f l g).Pairwise fun a b => (f a).2 < (f b).1 := by
  unfold tkI
  split
  · rename_i q
    rw [List.pairwise_append]
    refine ⟨h, by simp, fun a ha b hb => ?_⟩
    rw [List.mem_singleton] at hb
    subst hb
    exact of_decide_eq_true (List.all_eq_true.mp q a ha)
  · exact h
theorem alnI_apart {f : Nat × Rat → Pt} (gs : List (Nat × Rat)) : (alnI f gs).Pairwise fun a b => (f a).2 < (f b).1 := by
  have : ∀ (gs l : List (Nat × Rat)), (l.Pairwise fun a b => (f a).2 < (f b).1) → ((gs.foldl (tkI f) l).Pairwise fun a b => (f a).2 < (f b).1) := by
    intro gs
    induction gs with
    | nil => exact fun l h => h
    | cons g gs ih => exact fun l h => ih _ (tkI_apart h)
  exact this gs [] .nil
theorem areF_apart : ∀ {rs pre : List Pt}, ((pre ++ rs).Pairwise fun a b : Pt => a.2 < b.1) → areF pre rs = true
  | [], _, _ => rfl
  | one :: r, pre, h => by
    unfold areF
    rw [Bool.and_eq_true, List.all_eq_true]
    refine ⟨fun b hb => ?_, areF_apart (by rw [List.append_assoc]; exact h)⟩
    have := (List.pairwise_append.mp h).2.2 b hb one List.mem_cons_self
    simp [apartB, this]
theorem tkI_sub {f : Nat × Rat → Pt} {l : List (Nat × Rat)} {g x : Nat × Rat} (h : x ∈ l) : x ∈ tkI f l g := by
  unfold tkI; split
  · simp [h]
  · exact h
theorem tkI_mem {f : Nat × Rat → Pt} {l : List (Nat × Rat)} {g x : Nat × Rat} (h : x ∈ tkI f l g) : x ∈ l ∨ x = g := by
  unfold tkI at h; split at h
  · simpa using h
  · exact .inl h
theorem alnI_fold {f : Nat × Rat → Pt} : ∀ (gs l : List (Nat × Rat)), (∀ x ∈ gs, (f x).1 ≤ (f x).2) → (gs.Pairwise fun a b => (f a).2 ≤ (f b).2) → (∀ a ∈ l, ∀ g ∈ gs, (f a).2 ≤ (f g).2) →
    (∀ x ∈ gs.foldl (tkI f) l, x ∈ l ∨ x ∈ gs) ∧ (gs.foldl (tkI f) l).length ≤ l.length + gs.length ∧ (∀ x ∈ l, x ∈ gs.foldl (tkI f) l) ∧
      ∀ g ∈ gs, ∃ a ∈ gs.foldl (tkI f) l, (f g).1 ≤ (f a).2 ∧ (f a).2 ≤ (f g).2
  | [], l, _, _, _ => by simp
  | g :: gs, l, ho, hs, hl => by
    rw [List.pairwise_cons] at hs
    have hl' : ∀ a ∈ tkI f l g, ∀ x ∈ gs, (f a).2 ≤ (f x).2 := by
      intro a ha x hx
      rcases tkI_mem ha with ha | rfl
      · exact hl a ha x (List.mem_cons_of_mem _ hx)
      · exact hs.1 x hx
    obtain ⟨h1, h2, h3, h4⟩ := alnI_fold gs (tkI f l g) (fun x hx => ho x (List.mem_cons_of_mem _ hx)) hs.2 hl'
    rw [List.foldl_cons]
    refine ⟨fun x hx => ?_, ?_, fun x hx => h3 x (tkI_sub hx), fun x hx => ?_⟩
    · rcases h1 x hx with q | q
      · rcases tkI_mem q with q | rfl
        · exact .inl q
        · exact .inr List.mem_cons_self
      · exact .inr (List.mem_cons_of_mem _ q)
    · have : (tkI f l g).length ≤ l.length + 1 := by unfold tkI; split <;> simp
      simp only [List.length_cons]
      omega
    · rcases List.mem_cons.mp hx with rfl | hx
      · by_cases q : (l.all fun i => decide ((f i).2 < (f x).1)) = true
        · exact ⟨x, h3 x (by unfold tkI; rw [if_pos q]; simp), ho x List.mem_cons_self, Rat.le_refl⟩
        · rw [List.all_eq_true] at q
          simp only [decide_eq_true_eq] at q
          have : ∃ a ∈ l, ¬ (f a).2 < (f x).1 := by
            apply Classical.byContradiction
            intro w
            exact q fun a ha => Classical.byContradiction fun z => w ⟨a, ha, z⟩
          obtain ⟨a, ha, hz⟩ := this
          exact ⟨a, h3 a (tkI_sub ha), Rat.not_lt.mp hz, hl a ha x List.mem_cons_self⟩
      · exact h4 x hx
end Cr

/-! ## CrX -/
set_option Elab.async false
set_option linter.all false
set_option autoImplicit false
set_option maxRecDepth 100000
set_option maxHeartbeats 4000000
/-! CrX: comprehensions that draw; lists of fractions compared. -/
namespace Cr
open PySem

theorem cmpL_draw {f : PyData → Store → Option (List PyData × Store)} {α : Type} {Q : Store → Prop} {R : α → Prop} {d : α → PyData} (H : ∀ x S, Q S → ∃ a S', f x S = some ([d a], S') ∧ R a ∧ Q S') :
    ∀ (xs : List PyData) (S : Store), Q S → ∃ (as : List α) (S' : Store), cmpL f xs S = some (as.map d, S') ∧ as.length = xs.length ∧ (∀ a ∈ as, R a) ∧ Q S'
  | [], S, h => ⟨[], S, rfl, rfl, by simp, h⟩
  | x :: xs, S, h => by
    obtain ⟨a, S1, e1, r1, q1⟩ := H x S h
    obtain ⟨as, S2, e2, l2, r2, q2⟩ := cmpL_draw H xs S1 q1
    refine ⟨a :: as, S2, ?_, by simp [l2], ?_, q2⟩
    · unfold cmpL
      rw [e1]
      simp only [Option.bind_some]
      rw [e2]
      simp
    · intro b hb
      rcases List.mem_cons.mp hb with rfl | hb
      · exact r1
      · exact r2 b hb
/-- a comprehension whose turns draw from the store -/
theorem comp_draw {P : Prm} {own : List Nat} {p : Pat} {it : CE} {ifs : List CE} {elt : CE} {ρ : Ev} {S S0 : Store} {xs : List PyData} {α : Type} {d : α → PyData} {Q : Store → Prop} {R : α → Prop} {g : Store → Prop} (e : evi P it ρ S0 = some ((xs, g), S)) (hg : ∀ S, g S) (hl : xs.length ≤ line) (hQ : Q S)
    (H : ∀ x S, Q S → ∃ a S', turnC P own p ifs (eltC P elt) ρ x S = some ([d a], S') ∧ R a ∧ Q S') :
    ∃ (as : List α) (S' : Store), ev P (.comp own p it ifs elt) ρ S0 = some (.d (.list (as.map d)), S') ∧ as.length = xs.length ∧ (∀ a ∈ as, R a) ∧ Q S' := by
  obtain ⟨as, S', e1, l1, r1, q1⟩ := cmpL_draw (f := fun x S => turnC P own p ifs (eltC P elt) ρ x S) (d := d) (Q := Q) (R := R) H xs S hQ
  refine ⟨as, S', ?_, l1, r1, q1⟩
  rw [ev_comp]
  unfold clause
  rw [e]
  simp only [Option.bind_some]
  have : ∀ (dc : ∀ S, Decidable (g S)), (fun y S => @ite _ (g S) (dc S) (turnC P own p ifs (eltC P elt) ρ y S) none) = fun y S => turnC P own p ifs (eltC P elt) ρ y S := by
    intro dc
    funext y S
    exact if_pos (hg S)
  rw [this, e1]
  simp only [Option.bind_some]
  rw [if_pos (hg S')]
  unfold inLine
  simp only [Option.bind_some]
  rw [if_pos (by simpa [l1] using hl)]
theorem shp_frs (xs : List Rat) : shpAll 11 (xs.map fr) = true := by
  induction xs with
  | nil => rfl
  | cons x xs ih => simp [shpAll, shp_fr, ih]
theorem eqv_frs : ∀ xs : List Rat, PyData.eqvAll (xs.map fr) (xs.map fr) = true
  | [] => rfl
  | x :: xs => by simp [PyData.eqvAll, eqv_fr, eqv_frs xs]
theorem cmp_ne_frs (xs : List Rat) : cmpD .ne (.tuple (xs.map fr)) (.tuple (xs.map fr)) = some false := by
  simp [cmpD, shp, shp_frs, PyData.eqv, eqv_frs]
theorem cmp_nil_frs (xs : List Rat) : cmpD .eq (.tuple (xs.map fr)) (.tuple []) = some (decide (xs = [])) := by
  cases xs with
  | nil => simp [cmpD, shp, shpAll, PyData.eqv, PyData.eqvAll]
  | cons x xs =>
    have := shp_frs xs
    simp [cmpD, shp, shpAll, shp_fr, this, PyData.eqv, PyData.eqvAll]
end Cr

/-! ## CrR0 -/
set_option Elab.async false
set_option linter.all false
set_option autoImplicit false
set_option maxRecDepth 100000
set_option maxHeartbeats 4000000
/-! CrR0: each fraction once; a fraction removed; the least first. -/
namespace Cr
open PySem

def kfR (x : Rat) : List Int := [x.num, (x.den : Int)]
theorem kfR_inj {x y : Rat} (h : kfR x = kfR y) : x = y := by
  unfold kfR at h
  injection h with h1 h2
  injection h2 with h2 _
  exact Rat.ext h1 (by omega)
theorem kfR_fr (x : Rat) : PyData.tuple ((kfR x).map .int) = fr x := rfl
def onceR (acc : List Rat) : List Rat → List Rat
  | [] => acc
  | x :: xs => onceR (if x ∈ acc then acc else acc ++ [x]) xs
theorem once_map : ∀ (xs acc : List Rat), onceI (acc.map kfR) (xs.map kfR) = (onceR acc xs).map kfR
  | [], acc => rfl
  | x :: xs, acc => by
    have e : kfR x ∈ acc.map kfR ↔ x ∈ acc := by
      rw [List.mem_map]
      constructor
      · rintro ⟨y, hy, e⟩
        rw [← kfR_inj e]
        exact hy
      · intro h
        exact ⟨x, h, rfl⟩
    show onceI (if kfR x ∈ acc.map kfR then acc.map kfR else acc.map kfR ++ [kfR x]) (xs.map kfR) = (onceR (if x ∈ acc then acc else acc ++ [x]) xs).map kfR
    by_cases c : x ∈ acc
    · rw [if_pos c, if_pos (e.mpr c)]
      exact once_map xs acc
    · rw [if_neg c, if_neg (fun h => c (e.mp h))]
      rw [← once_map xs (acc ++ [x])]
      simp
theorem once_mem : ∀ (xs acc : List Rat) (y : Rat), y ∈ onceR acc xs ↔ y ∈ acc ∨ y ∈ xs
  | [], acc, y => by simp [onceR]
  | x :: xs, acc, y => by
    show y ∈ onceR (if x ∈ acc then acc else acc ++ [x]) xs ↔ _
    rw [once_mem xs]
    by_cases c : x ∈ acc
    · rw [if_pos c, List.mem_cons]
      constructor
      · rintro (h | h)
        · exact .inl h
        · exact .inr (.inr h)
      · rintro (h | rfl | h)
        · exact .inl h
        · exact .inl c
        · exact .inr h
    · rw [if_neg c, List.mem_append, List.mem_singleton, List.mem_cons, or_assoc]
theorem once_nodup : ∀ (xs acc : List Rat), acc.Nodup → (onceR acc xs).Nodup
  | [], acc, h => h
  | x :: xs, acc, h => by
    show (onceR (if x ∈ acc then acc else acc ++ [x]) xs).Nodup
    refine once_nodup xs _ ?_
    split
    · exact h
    · rename_i c
      rw [List.nodup_append]
      refine ⟨h, by simp, fun a ha b hb e => ?_⟩
      rw [List.mem_singleton.mp hb] at e
      exact c (e ▸ ha)
theorem once_len : ∀ (xs acc : List Rat), (onceR acc xs).length ≤ acc.length + xs.length
  | [], acc => Nat.le_refl _
  | x :: xs, acc => by
    show (onceR (if x ∈ acc then acc else acc ++ [x]) xs).length ≤ _
    have h := once_len xs (if x ∈ acc then acc else acc ++ [x])
    have : (if x ∈ acc then acc else acc ++ [x]).length ≤ acc.length + 1 := by split <;> simp
    simp only [List.length_cons]
    omega
theorem keys_frs : ∀ xs : List Rat, keysOf (xs.map fun x => .tuple [fr x, .int 0]) = some (xs.map kfR)
  | [] => rfl
  | x :: xs => by
    rw [List.map_cons]
    show (intsD (fr x)).bind (fun is => (keysOf (xs.map fun x => .tuple [fr x, .int 0])).map (is :: ·)) = _
    rw [keys_frs xs]
    rfl
/-- list(dict([(x, 0) for x in xs])) -/
theorem bf_keys (xs : List Rat) : bfD .keys [.list (xs.map fun x => .tuple [fr x, .int 0])] = some (.list ((onceR [] xs).map fr)) := by
  show (keysOf _).map _ = _
  rw [keys_frs]
  have e : onceI [] (xs.map kfR) = (onceR [] xs).map kfR := once_map xs []
  show some (PyData.list ((onceI [] (xs.map kfR)).map fun is => .tuple (is.map .int))) = _
  rw [e, List.map_map]
  rfl
theorem find_erase {m : Rat} : ∀ {zs : List Rat}, m ∈ zs → ∃ k, ((zs.map fr).findIdx? fun z => PyData.eqv z (fr m)) = some k ∧ (zs.map fr).eraseIdx k = (zs.erase m).map fr
  | [], h => nomatch h
  | z :: zs, h => by
    rw [List.map_cons, List.findIdx?_cons, eqv_fr]
    by_cases c : z = m
    · refine ⟨0, by simp [c], ?_⟩
      rw [c]
      simp
    · obtain ⟨k, e1, e2⟩ := find_erase ((List.mem_cons.mp h).resolve_left fun e => c e.symm)
      refine ⟨k + 1, by simp [c, e1], ?_⟩
      have : (z :: zs).erase m = z :: zs.erase m := by rw [List.erase_cons_tail]; simpa using c
      rw [this, List.map_cons, List.eraseIdx_cons_succ, e2]
theorem met_rem {m : Rat} {zs : List Rat} (h : m ∈ zs) : metD .remove (zs.map fr) [fr m] = some (.none, (zs.erase m).map fr) := by
  obtain ⟨k, e1, e2⟩ := find_erase h
  have s1 : shp 12 (.list (zs.map fr)) = true := shp_frs zs
  show (if (shp 12 (.list (zs.map fr)) && shp 12 (fr m)) = true then (((zs.map fr).findIdx? fun z => PyData.eqv z (fr m)).map fun k => (PyData.none, (zs.map fr).eraseIdx k)) else none) = _
  rw [s1, shp_fr, e1]
  simp [e2]
theorem cmp_ne_nilF (zs : List Rat) : cmpD .ne (.list (zs.map fr)) (.list []) = some (!decide (zs = [])) := by
  have s1 : shp 12 (.list (zs.map fr)) = true := shp_frs zs
  have s2 : shp 12 (.list []) = true := rfl
  simp only [cmpD, s1, s2, Bool.and_self, if_true]
  cases zs with
  | nil => rfl
  | cons z zs => simp [PyData.eqv, PyData.eqvAll]
theorem cmp_ne_lfrs (xs : List Rat) : cmpD .ne (.list (xs.map fr)) (.list (xs.map fr)) = some false := by
  have s1 : shp 12 (.list (xs.map fr)) = true := shp_frs xs
  simp [cmpD, s1, PyData.eqv, eqv_frs]
theorem shp_sps : ∀ ps : List Pt, shpAll 11 (ps.map sp) = true
  | [] => rfl
  | p :: ps => by
    rw [List.map_cons]
    show (shp 11 (sp p) && shpAll 11 (ps.map sp)) = true
    rw [shp_sps ps]
    rfl
theorem eqv_sps : ∀ ps : List Pt, PyData.eqvAll (ps.map sp) (ps.map sp) = true
  | [] => rfl
  | p :: ps => by
    rw [List.map_cons]
    show (PyData.eqv (sp p) (sp p) && PyData.eqvAll (ps.map sp) (ps.map sp)) = true
    rw [eqv_sps ps]
    obtain ⟨a, b⟩ := p
    simp [sp, PyData.eqv, PyData.eqvAll, eqv_fr]
theorem cmp_ne_sps (ps : List Pt) : cmpD .ne (.list (ps.map sp)) (.list (ps.map sp)) = some false := by
  have s1 : shp 12 (.list (ps.map sp)) = true := shp_sps ps
  simp [cmpD, s1, PyData.eqv, eqv_sps]
end Cr

/-! ## CrY -/
set_option Elab.async false
set_option linter.all false
set_option autoImplicit false
/-! CrY: all over a list of truths. -/
namespace Cr
open PySem
theorem boolsOf_map {α : Type} (p : α → Bool) : ∀ xs : List α, boolsOf (xs.map fun x => PyData.bool (p x)) = some (xs.map p)
  | [] => rfl
  | x :: xs => by simp [boolsOf, boolsOf_map p xs]
theorem bf_all {α : Type} (p : α → Bool) (xs : List α) : bfD .all [.list (xs.map fun x => PyData.bool (p x))] = some (.bool (xs.all p)) := by
  show (boolsOf _).map _ = _
  rw [boolsOf_map]
  simp
end Cr

/-! ## CrZ -/
set_option Elab.async false
set_option linter.all false
set_option autoImplicit false
set_option maxRecDepth 100000
/-! CrZ: spots compared; the texts of truths compared. -/
namespace Cr
open PySem
theorem shp_sp (p : Pt) : shp 12 (sp p) = true := by
  show shpAll 11 [fr p.1, fr p.2] = true
  exact shp_frs [p.1, p.2]
theorem eqv_sp (p q : Pt) : PyData.eqv (sp p) (sp q) = decide (p = q) := by
  obtain ⟨a, b⟩ := p
  obtain ⟨c, d⟩ := q
  simp [sp, PyData.eqv, PyData.eqvAll, eqv_fr]
theorem cmp_eqP (p q : Pt) : cmpD .eq (sp p) (sp q) = some (decide (p = q)) := by
  simp [cmpD, shp_sp, eqv_sp]
theorem cmp_neP (p q : Pt) : cmpD .ne (sp p) (sp q) = some (!decide (p = q)) := by
  simp [cmpD, shp_sp, eqv_sp]
def rpD (b : Bool) : PyData := .str (if b then "True" else "False")
theorem repr_b (b : Bool) : bfD .repr [.bool b] = some (rpD b) := rfl
theorem cmp_ne_rp (b : Bool) : cmpD .ne (rpD b) (rpD b) = some false := by cases b <;> decide +kernel
end Cr

/-! ## CrT -/
set_option Elab.async false
set_option linter.all false
set_option autoImplicit false
set_option maxRecDepth 100000
/-! CrT: what repr tells of data: it can be told, and is equal to itself. -/
namespace Cr
open PySem

theorem strOk_app {a b : Str} (h1 : PyData.strOk a = true) (h2 : PyData.strOk b = true) : PyData.strOk (a ++ b) = true := by
  show (a.cps ++ b.cps).all _ = true
  unfold PyData.strOk at h1 h2
  rw [Array.all_append, h1, h2]
  rfl
theorem strOk_of (s : String) : PyData.strOk (Str.ofString s) = true := by
  rw [Str.ofString_eq_toList]
  show (List.toArray _).all _ = true
  simp only [List.all_toArray, List.all_map, List.all_eq_true, Function.comp, decide_eq_true_eq]
  intro c _
  have h := c.valid
  unfold UInt32.isValidChar Nat.isValidChar at h
  show c.val.toNat < 1114112
  omega
theorem strOk_join {sep : Str} (hs : PyData.strOk sep = true) : ∀ {ts : List Str}, (∀ t ∈ ts, PyData.strOk t = true) → PyData.strOk (Str.join sep ts) = true
  | [], _ => (by decide +kernel : PyData.strOk Str.empty = true)
  | [x], h => h x List.mem_cons_self
  | x :: y :: r, h => strOk_app (strOk_app (h x List.mem_cons_self) hs) (strOk_join hs (ts := y :: r) fun t ht => h t (List.mem_cons_of_mem _ ht))
theorem strOk_from : ∀ {ts : List Str} {k : Nat} {acc : Str}, PyData.strOk acc = true → (∀ t ∈ ts, PyData.strOk t = true) → PyData.strOk (textFrom k acc ts) = true
  | [], _, _, h, _ => h
  | t :: ts, k, acc, h, ht => by
    unfold textFrom
    exact strOk_from (strOk_app (strOk_app h (strOk_of _)) (ht t List.mem_cons_self)) fun u hu => ht u (List.mem_cons_of_mem _ hu)
mutual
/-- every text within is told in plain signs -/
def asc : PyData → Bool
  | .none => true
  | .bool _ => true
  | .int _ => true
  | .str s => PyData.strOk (reprText s)
  | .list xs => ascAll xs
  | .tuple xs => ascAll xs
  | .dict _ => false
def ascAll : List PyData → Bool
  | [] => true
  | x :: xs => asc x && ascAll xs
end
mutual
theorem strOk_shown : ∀ d : PyData, asc d = true → PyData.strOk d.shown = true
  | .none, _ => strOk_of _
  | .bool b, _ => by cases b <;> exact strOk_of _
  | .int i, _ => strOk_of _
  | .str s, h => h
  | .list xs, h => strOk_app (strOk_from (strOk_of _) (strOk_shownAll xs h)) (strOk_of _)
  | .tuple xs, h => strOk_app (strOk_app (strOk_of _) (strOk_join (strOk_of _) (strOk_shownAll xs h))) (strOk_of _)
  | .dict _, h => nomatch h
theorem strOk_shownAll : ∀ xs : List PyData, ascAll xs = true → ∀ t ∈ PyData.shownAll xs, PyData.strOk t = true
  | [], _, t, h => nomatch h
  | x :: xs, h, t, ht => by
    simp only [ascAll, Bool.and_eq_true] at h
    rcases List.mem_cons.mp ht with rfl | ht
    · exact strOk_shown x h.1
    · exact strOk_shownAll xs h.2 t ht
end
theorem ne_self_str {s : Str} (h : PyData.strOk s = true) : cmpD .ne (.str s) (.str s) = some false := by
  simp [cmpD, shp, h, PyData.eqv]
/-- data that repr tells: how deep, how much -/
structure Tel (n W : Nat) (d : PyData) : Prop where
  sh : d.showable = true
  nd : d.hasDict = false
  dp : d.depth ≤ n
  ls : d.leavesShort 100 = true
  wt : d.weight ≤ W
  as : asc d = true
theorem Tel.ok {n W : Nat} {d : PyData} (h : Tel n W d) (hn : n ≤ 60) (hW : W ≤ 100000) : rpOk d = true := by
  unfold rpOk
  have := PyData.shown_le 100 (by omega) d h.ls
  have w := h.wt
  have l : d.shown.length ≤ line := by
    show _ ≤ 16777216
    omega
  simp [h.sh, h.nd, l]
  have := h.dp
  omega
theorem Tel.ne {n W : Nat} {d : PyData} (h : Tel n W d) : cmpD .ne (.str d.shown) (.str d.shown) = some false := ne_self_str (strOk_shown d h.as)
theorem Tel.mono {n m W V : Nat} {d : PyData} (h : Tel n W d) (hn : n ≤ m) (hW : W ≤ V) : Tel m V d := ⟨h.sh, h.nd, Nat.le_trans h.dp hn, h.ls, Nat.le_trans h.wt hW, h.as⟩
theorem tel_none : Tel 0 0 .none := ⟨rfl, rfl, Nat.le_refl _, rfl, Nat.le_refl _, rfl⟩
theorem tel_bool (b : Bool) : Tel 0 0 (.bool b) := ⟨rfl, rfl, Nat.le_refl _, rfl, Nat.le_refl _, rfl⟩
theorem tel_int {i : Int} (h : i.natAbs < 2 ^ 320) : Tel 0 320 (.int i) := by
  have l : i.natAbs.log2 < 320 := by
    by_cases c : i.natAbs = 0
    · rw [c]; decide
    · exact (Nat.log2_lt c).mpr h
  refine ⟨?_, rfl, Nat.le_refl _, ?_, ?_, rfl⟩
  · show decide _ = true
    exact decide_eq_true (by omega)
  · have e := int_text_length_le10 (a := i) (k := 97) (by decide) (Nat.lt_of_lt_of_le h (by decide))
    show decide _ = true
    refine decide_eq_true ?_
    show (Str.ofString (toString i)).length ≤ 100
    rw [ofString_length]
    omega
  · show (if (i == 0) = true then 0 else i.natAbs.log2 + 1) ≤ 320
    by_cases c : (i == 0) = true
    · rw [if_pos c]; omega
    · rw [if_neg c]; exact l
theorem tel_all {n W : Nat} : ∀ {xs : List PyData}, (∀ x ∈ xs, Tel n W x) → PyData.showableAll xs = true ∧ PyData.hasDictAll xs = false ∧ PyData.depthAll xs ≤ n ∧ PyData.leavesShortAll 100 xs = true ∧ PyData.weightAll xs ≤ xs.length * (W + 1) ∧ ascAll xs = true
  | [], _ => ⟨rfl, rfl, Nat.zero_le _, rfl, Nat.zero_le _, rfl⟩
  | x :: xs, h => by
    have a := h x List.mem_cons_self
    obtain ⟨b1, b2, b3, b4, b5, b6⟩ := tel_all (xs := xs) fun y hy => h y (List.mem_cons_of_mem _ hy)
    refine ⟨?_, ?_, ?_, ?_, ?_, ?_⟩
    · simp [PyData.showableAll, a.sh, b1]
    · simp [PyData.hasDictAll, a.nd, b2]
    · have := a.dp; simp only [PyData.depthAll]; omega
    · simp [PyData.leavesShortAll, a.ls, b4]
    · have := a.wt
      simp only [PyData.weightAll, List.length_cons, Nat.add_mul, Nat.one_mul]
      omega
    · simp [ascAll, a.as, b6]
theorem tel_tup {n W : Nat} {xs : List PyData} (h : ∀ x ∈ xs, Tel n W x) : Tel (n + 1) (xs.length * (W + 1)) (.tuple xs) := by
  obtain ⟨b1, b2, b3, b4, b5, b6⟩ := tel_all h
  exact ⟨b1, b2, by show _ + 1 ≤ _; omega, b4, b5, b6⟩
theorem tel_lst {n W : Nat} {xs : List PyData} (h : ∀ x ∈ xs, Tel n W x) : Tel (n + 1) (xs.length * (W + 1)) (.list xs) := by
  obtain ⟨b1, b2, b3, b4, b5, b6⟩ := tel_all h
  exact ⟨b1, b2, by show _ + 1 ≤ _; omega, b4, b5, b6⟩
theorem tel_fr {n : Nat} {q : Rat} (h : sz n q) (hn : n ≤ 320) : Tel 1 642 (fr q) := by
  refine (tel_tup (n := 0) (W := 320) (xs := [.int q.num, .int (q.den : Int)]) ?_).mono (by omega) (by simp)
  intro x hx
  simp only [List.mem_cons, List.not_mem_nil, or_false] at hx
  rcases hx with rfl | rfl
  · exact tel_int (Nat.lt_of_lt_of_le h.1 (Nat.pow_le_pow_right (by decide) hn))
  · exact tel_int (Nat.lt_of_lt_of_le (by simpa using h.2) (Nat.pow_le_pow_right (by decide) hn))
theorem tel_sp {n : Nat} {p : Pt} (h1 : sz n p.1) (h2 : sz n p.2) (hn : n ≤ 320) : Tel 2 1286 (sp p) := by
  refine (tel_tup (n := 1) (W := 642) (xs := [fr p.1, fr p.2]) ?_).mono (by omega) (by simp)
  intro x hx
  simp only [List.mem_cons, List.not_mem_nil, or_false] at hx
  rcases hx with rfl | rfl
  · exact tel_fr h1 hn
  · exact tel_fr h2 hn
theorem tel_frs {n : Nat} {xs : List Rat} (h : ∀ x ∈ xs, sz n x) (hn : n ≤ 320) : Tel 2 (xs.length * 643) (.list (xs.map fr)) := by
  have := tel_lst (n := 1) (W := 642) (xs := xs.map fr) fun d hd => by
    obtain ⟨x, hx, rfl⟩ := List.mem_map.mp hd
    exact tel_fr (h x hx) hn
  rwa [List.length_map] at this
theorem tel_rg {n : Nat} {r : List Pt} (h : ∀ c ∈ r, sz n c.1 ∧ sz n c.2) (hn : n ≤ 320) : Tel 3 (r.length * 1287) (rg r) := by
  have := tel_tup (n := 2) (W := 1286) (xs := r.map sp) fun d hd => by
    obtain ⟨c, hc, rfl⟩ := List.mem_map.mp hd
    exact tel_sp (h c hc).1 (h c hc).2 hn
  rwa [List.length_map] at this
/-- repr of what can be told -/
theorem rep_tup {n W : Nat} {xs : List PyData} (h : Tel n W (.tuple xs)) (hn : n ≤ 60) (hW : W ≤ 100000) : bfD .repr [.tuple xs] = some (.str (PyData.shown (.tuple xs))) := by
  show (if rpOk (.tuple xs) = true then _ else _) = _
  rw [h.ok hn hW]
  rfl
theorem rep_lst {n W : Nat} {xs : List PyData} (h : Tel n W (.list xs)) (hn : n ≤ 60) (hW : W ≤ 100000) : bfD .repr [.list xs] = some (.str (PyData.shown (.list xs))) := by
  show (if rpOk (.list xs) = true then _ else _) = _
  rw [h.ok hn hW]
  rfl
end Cr

/-! ## LwA -/
set_option Elab.async false
set_option linter.all false
set_option autoImplicit false
set_option maxRecDepth 100000
set_option maxHeartbeats 4000000
namespace Lw
open PySem PySem.Spec L2 Cr
open PyProof.Rows (envOfC)
/-! ### the text by places -/
def topS (i : Nat) : Stmt := PySem.Challenge.pw_ridgewatch_k32_whole_sights_and_reaches.main.body.getD i (.Pass ⟨0, 0, 0, 0⟩)
abbrev s0 : Stmt := topS 1
abbrev s1 : Stmt := topS 2
abbrev s2 : Stmt := topS 3
abbrev s3 : Stmt := topS 4
abbrev s4 : Stmt := topS 5
abbrev s5 : Stmt := topS 6
abbrev s6 : Stmt := topS 7
abbrev s7 : Stmt := topS 8
abbrev s8 : Stmt := topS 9
abbrev s9 : Stmt := topS 10
abbrev s10 : Stmt := topS 11
abbrev s11 : Stmt := topS 12
abbrev s12 : Stmt := topS 14
abbrev s13 : Stmt := topS 15
abbrev s14 : Stmt := topS 16
abbrev s15 : Stmt := topS 18
abbrev s16 : Stmt := topS 19
abbrev s17 : Stmt := topS 20
abbrev s18 : Stmt := topS 21
abbrev s19 : Stmt := topS 23
abbrev s20 : Stmt := topS 24
abbrev s21 : Stmt := topS 25
abbrev s22 : Stmt := topS 26
abbrev s23 : Stmt := topS 27
abbrev s24 : Stmt := topS 28
abbrev s25 : Stmt := topS 29
abbrev s26 : Stmt := topS 33
abbrev s27 : Stmt := topS 34
abbrev s28 : Stmt := topS 35
abbrev s29 : Stmt := topS 36
abbrev s30 : Stmt := topS 37
abbrev s31 : Stmt := topS 38
abbrev s32 : Stmt := topS 39
abbrev s33 : Stmt := topS 40
abbrev s34 : Stmt := topS 41
abbrev s35 : Stmt := topS 42
abbrev s36 : Stmt := topS 43
abbrev s37 : Stmt := topS 44
abbrev s38 : Stmt := topS 45
abbrev s39 : Stmt := topS 46
abbrev s40 : Stmt := topS 47
abbrev s41 : Stmt := topS 48
abbrev s42 : Stmt := topS 49
abbrev s43 : Stmt := topS 50
abbrev s44 : Stmt := topS 51
abbrev sOpen : Stmt := topS 31
abbrev sPick : Stmt := topS 32
/-- is_integer -/
def b0 : List CS := [.ret (.and (.bf .isInt [(.var 0)]) (.not (.bf .isBool [(.var 0)])))]
/-- common -/
def b1 : List CS := [
  .par [0, 1] [(false, (.bf .abs [(.var 0)])), (false, (.bf .abs [(.var 1)]))],
  .swhile (.cmp .gt (.var 1) (.cst (.int 0))) [.par [0, 1] [(false, (.var 1)), (false, (.bin .mod (.var 0) (.var 1)))]],
  .ret (.var 0)]
/-- is_fraction -/
def b2 : List CS := [
  .sif (.or (.not (.bf .isTup [(.var 0)])) (.or (.cmp .ne (.bf .len [(.var 0)]) (.cst (.int 2))) (.or (.not (.call 0 [(.ix (.var 0) (.cst (.int 0)))])) (.not (.call 0 [(.ix (.var 0) (.cst (.int 1)))]))))) [.ret (.cst (.bool false))] [],
  .ret (.and (.cmp .ge (.ix (.var 0) (.cst (.int 1))) (.cst (.int 1))) (.cmp .eq (.call 1 [(.ix (.var 0) (.cst (.int 0))), (.ix (.var 0) (.cst (.int 1)))]) (.cst (.int 1))))]
/-- fraction -/
def b3 : List CS := [
  .asg (.nm 2) (.ite (.cmp .gt (.var 1) (.cst (.int 0))) (.call 1 [(.var 0), (.var 1)]) (.neg (.call 1 [(.var 0), (.var 1)]))),
  .ret (.tup [(.bin .fdiv (.var 0) (.var 2)), (.bin .fdiv (.var 1) (.var 2))])]
/-- added -/
def b4 : List CS := [.ret (.call 3 [(.bin .add (.bin .mul (.ix (.var 0) (.cst (.int 0))) (.ix (.var 1) (.cst (.int 1)))) (.bin .mul (.ix (.var 1) (.cst (.int 0))) (.ix (.var 0) (.cst (.int 1))))), (.bin .mul (.ix (.var 0) (.cst (.int 1))) (.ix (.var 1) (.cst (.int 1))))])]
/-- lessened -/
def b5 : List CS := [.ret (.call 3 [(.bin .sub (.bin .mul (.ix (.var 0) (.cst (.int 0))) (.ix (.var 1) (.cst (.int 1)))) (.bin .mul (.ix (.var 1) (.cst (.int 0))) (.ix (.var 0) (.cst (.int 1))))), (.bin .mul (.ix (.var 0) (.cst (.int 1))) (.ix (.var 1) (.cst (.int 1))))])]
/-- multiplied -/
def b6 : List CS := [.ret (.call 3 [(.bin .mul (.ix (.var 0) (.cst (.int 0))) (.ix (.var 1) (.cst (.int 0)))), (.bin .mul (.ix (.var 0) (.cst (.int 1))) (.ix (.var 1) (.cst (.int 1))))])]
/-- divided -/
def b7 : List CS := [.ret (.call 3 [(.bin .mul (.ix (.var 0) (.cst (.int 0))) (.ix (.var 1) (.cst (.int 1)))), (.bin .mul (.ix (.var 0) (.cst (.int 1))) (.ix (.var 1) (.cst (.int 0))))])]
/-- compared -/
def b8 : List CS := [
  .asg (.nm 2) (.bin .sub (.bin .mul (.ix (.var 0) (.cst (.int 0))) (.ix (.var 1) (.cst (.int 1)))) (.bin .mul (.ix (.var 1) (.cst (.int 0))) (.ix (.var 0) (.cst (.int 1))))),
  .ret (.ite (.cmp .eq (.var 2) (.cst (.int 0))) (.cst (.int 0)) (.ite (.cmp .gt (.var 2) (.cst (.int 0))) (.cst (.int 1)) (.neg (.cst (.int 1)))))]
/-- least_of -/
def b9 : List CS := [
  .asg (.nm 1) (.ix (.var 0) (.cst (.int 0))),
  .sfor (.nm 2) (.var 0) [.asg (.nm 1) (.ite (.cmp .lt (.call 8 [(.var 2), (.var 1)]) (.cst (.int 0))) (.var 2) (.var 1))],
  .ret (.var 1)]
/-- greatest_of -/
def b10 : List CS := [
  .asg (.nm 1) (.ix (.var 0) (.cst (.int 0))),
  .sfor (.nm 2) (.var 0) [.asg (.nm 1) (.ite (.cmp .gt (.call 8 [(.var 2), (.var 1)]) (.cst (.int 0))) (.var 2) (.var 1))],
  .ret (.var 1)]
/-- between -/
def b11 : List CS := [.ret (.call 4 [(.var 0), (.call 6 [(.var 2), (.call 5 [(.var 1), (.var 0)])])])]
/-- height_at -/
def b12 : List CS := [.ret (.call 11 [(.ix (.var 0) (.cst (.int 1))), (.ix (.var 1) (.cst (.int 1))), (.call 7 [(.call 5 [(.var 2), (.ix (.var 0) (.cst (.int 0)))]), (.call 5 [(.ix (.var 1) (.cst (.int 0))), (.ix (.var 0) (.cst (.int 0)))])])])]
/-- place_at -/
def b13 : List CS := [.ret (.call 11 [(.ix (.var 0) (.cst (.int 0))), (.ix (.var 1) (.cst (.int 0))), (.call 7 [(.call 5 [(.var 2), (.ix (.var 0) (.cst (.int 1)))]), (.call 5 [(.ix (.var 1) (.cst (.int 1))), (.ix (.var 0) (.cst (.int 1)))])])])]
/-- spot_between -/
def b14 : List CS := [.ret (.tup [(.call 11 [(.ix (.var 0) (.cst (.int 0))), (.ix (.var 1) (.cst (.int 0))), (.var 2)]), (.call 11 [(.ix (.var 0) (.cst (.int 1))), (.ix (.var 1) (.cst (.int 1))), (.var 2)])])]
/-- is_within -/
def b15 : List CS := [.ret (.and (.call 2 [(.var 0)]) (.and (.cmp .ge (.call 8 [(.var 0), (.var 1)]) (.cst (.int 0))) (.cmp .le (.call 8 [(.var 0), (.var 2)]) (.cst (.int 0)))))]
/-- spot_of -/
def b16 : List CS := [
  .asg (.tup [(.nm 2), (.nm 3)]) (.var 1),
  .ret (.call 14 [(.ix (.var 0) (.var 2)), (.ix (.var 0) (.bin .add (.var 2) (.cst (.int 1)))), (.var 3)])]
/-- line_of -/
def b17 : List CS := [.ret (.tup [(.ix (.ix (.var 0) (.cst (.int 0))) (.cst (.int 0))), (.ix (.ix (.var 0) (.neg (.cst (.int 1)))) (.cst (.int 0)))])]
/-- is_place -/
def b18 : List CS := [.ret (.call 15 [(.var 1), (.ix (.ix (.var 0) (.cst (.int 0))) (.cst (.int 0))), (.ix (.ix (.var 0) (.neg (.cst (.int 1)))) (.cst (.int 0)))])]
/-- is_under -/
def b19 : List CS := [.ret (.cmp .lt (.call 8 [(.var 0), (.var 1)]) (.cst (.int 0)))]
/-- barring -/
def b20 : List CS := [
  .par [4, 5] [(false, (.tup [(.var 2), (.var 1)])), (false, (.call 16 [(.var 0), (.var 3)]))],
  .sif (.cmp .eq (.call 8 [(.var 2), (.ix (.var 5) (.cst (.int 0)))]) (.cst (.int 0))) [.ret (.tup [])] [],
  .asg (.tup [(.nm 6), (.nm 7)]) (.ite (.call 19 [(.var 2), (.ix (.var 5) (.cst (.int 0)))]) (.tup [(.var 2), (.ix (.var 5) (.cst (.int 0)))]) (.tup [(.ix (.var 5) (.cst (.int 0))), (.var 2)])),
  .alloc 8 (.lst []),
  .sfor (.tup [(.nm 9), (.nm 10)]) (.enm (.var 0)) [.sif (.and (.call 19 [(.var 6), (.ix (.var 10) (.cst (.int 0)))]) (.call 19 [(.ix (.var 10) (.cst (.int 0))), (.var 7)])) [.sif (.call 19 [(.call 12 [(.var 4), (.var 5), (.ix (.var 10) (.cst (.int 0)))]), (.ix (.var 10) (.cst (.int 1)))]) [.expr (.met .append (.var 8) [(.var 9)])] []] []],
  .ret (.bf .tuple [(.var 8)])]
/-- sees -/
def b21 : List CS := [.ret (.cmp .eq (.call 20 [(.var 0), (.var 1), (.var 2), (.var 3)]) (.tup []))]
/-- seen_by -/
def b22 : List CS := [.ret (.bf .tuple [(.comp [4] (.nm 4) (.var 2) [(.call 21 [(.var 0), (.var 1), (.var 4), (.var 3)])] (.var 4))])]
/-- sight_places -/
def b23 : List CS := [
  .par [3, 4, 5] [(false, (.call 16 [(.var 0), (.var 2)])), (true, (.lst [])), (true, (.lst []))],
  .sfor (.tup [(.nm 6), (.nm 7)]) (.enm (.var 0)) [.sif (.call 19 [(.ix (.var 3) (.cst (.int 1))), (.ix (.var 7) (.cst (.int 1)))]) [.sif (.call 19 [(.ix (.var 7) (.cst (.int 0))), (.ix (.var 3) (.cst (.int 0)))]) [.expr (.met .append (.var 4) [(.tup [(.call 13 [(.var 3), (.var 7), (.var 1)]), (.var 6)])])] [.sif (.call 19 [(.ix (.var 3) (.cst (.int 0))), (.ix (.var 7) (.cst (.int 0)))]) [.expr (.met .append (.var 5) [(.tup [(.call 13 [(.var 3), (.var 7), (.var 1)]), (.var 6)])])] []]] []],
  .ret (.tup [(.var 4), (.var 5)])]
/-- reach -/
def b24 : List CS := [
  .asg (.tup [(.nm 3), (.nm 4)]) (.call 23 [(.var 0), (.var 1), (.var 2)]),
  .asg (.tup [(.nm 5), (.nm 6)]) (.call 17 [(.var 0)]),
  .asg (.nm 7) (.call 10 [(.tup [(.var 5), (.star (.comp [8, 9] (.tup [(.nm 8), (.nm 9)]) (.var 3) [] (.var 8)))])]),
  .ret (.tup [(.var 7), (.call 9 [(.tup [(.var 6), (.star (.comp [8, 9] (.tup [(.nm 8), (.nm 9)]) (.var 4) [] (.var 8)))])])])]
/-- common_reach -/
def b25 : List CS := [
  .asg (.nm 3) (.comp [4] (.nm 4) (.var 2) [] (.call 24 [(.var 0), (.var 1), (.var 4)])),
  .ret (.tup [(.call 10 [(.bf .tuple [(.comp [5, 6] (.tup [(.nm 5), (.nm 6)]) (.var 3) [] (.var 5))])]), (.call 9 [(.bf .tuple [(.comp [5, 6] (.tup [(.nm 5), (.nm 6)]) (.var 3) [] (.var 6))])])])]
/-- _law_common -/
def b26 : List CS := [
  .par [0, 1] [(false, (.bf .abs [(.var 0)])), (false, (.bf .abs [(.var 1)]))],
  .swhile (.cmp .ne (.var 1) (.cst (.int 0))) [.par [0, 1] [(false, (.var 1)), (false, (.bin .mod (.bf .int [(.var 0)]) (.var 1)))]],
  .ret (.var 0)]
/-- _law_fraction -/
def b27 : List CS := [
  .asg (.nm 2) (.bin .mul (.call 26 [(.var 0), (.var 1)]) (.ite (.cmp .gt (.var 1) (.cst (.int 0))) (.cst (.int 1)) (.bin .sub (.cst (.int 0)) (.cst (.int 1))))),
  .ret (.tup [(.bin .fdiv (.var 0) (.var 2)), (.bin .fdiv (.var 1) (.var 2))])]
/-- _law_sum -/
def b28 : List CS := [.ret (.call 27 [(.bin .add (.bin .mul (.ix (.var 0) (.cst (.int 0))) (.ix (.var 1) (.cst (.int 1)))) (.bin .mul (.ix (.var 1) (.cst (.int 0))) (.ix (.var 0) (.cst (.int 1))))), (.bin .mul (.ix (.var 0) (.cst (.int 1))) (.ix (.var 1) (.cst (.int 1))))])]
/-- _law_times -/
def b29 : List CS := [.ret (.call 27 [(.bin .mul (.ix (.var 0) (.cst (.int 0))) (.ix (.var 1) (.cst (.int 0)))), (.bin .mul (.ix (.var 0) (.cst (.int 1))) (.ix (.var 1) (.cst (.int 1))))])]
/-- _law_less -/
def b30 : List CS := [.ret (.call 28 [(.var 0), (.tup [(.bin .sub (.cst (.int 0)) (.ix (.var 1) (.cst (.int 0)))), (.ix (.var 1) (.cst (.int 1)))])])]
/-- _law_below -/
def b31 : List CS := [.ret (.cmp .lt (.bin .mul (.ix (.var 0) (.cst (.int 0))) (.ix (.var 1) (.cst (.int 1)))) (.bin .mul (.ix (.var 1) (.cst (.int 0))) (.ix (.var 0) (.cst (.int 1)))))]
/-- _law_over -/
def b32 : List CS := [.ret (.call 27 [(.bin .mul (.ix (.var 0) (.cst (.int 0))) (.ix (.var 1) (.cst (.int 1)))), (.bin .mul (.ix (.var 0) (.cst (.int 1))) (.ix (.var 1) (.cst (.int 0))))])]
/-- _law_least -/
def b33 : List CS := [
  .asg (.nm 1) (.ix (.var 0) (.cst (.int 0))),
  .sfor (.nm 2) (.var 0) [.asg (.nm 1) (.ite (.call 31 [(.var 2), (.var 1)]) (.var 2) (.var 1))],
  .ret (.var 1)]
/-- _law_most -/
def b34 : List CS := [
  .asg (.nm 1) (.ix (.var 0) (.cst (.int 0))),
  .sfor (.nm 2) (.var 0) [.asg (.nm 1) (.ite (.call 31 [(.var 1), (.var 2)]) (.var 2) (.var 1))],
  .ret (.var 1)]
/-- _law_sorted -/
def b35 : List CS := [
  .par [1, 2] [(true, (.lst [])), (true, (.bf .keys [(.comp [3] (.nm 3) (.var 0) [] (.tup [(.var 3), (.cst (.int 0))]))]))],
  .swhile (.cmp .ne (.var 2) (.lst [])) [
    .asg (.nm 4) (.call 33 [(.var 2)]),
    .expr (.met .append (.var 1) [(.var 4)]),
    .expr (.met .remove (.var 2) [(.var 4)])],
  .ret (.var 1)]
/-- _law_spot -/
def b36 : List CS := [
  .asg (.tup [(.tup [(.nm 3), (.nm 4)]), (.tup [(.nm 5), (.nm 6)])]) (.tup [(.ix (.var 0) (.var 1)), (.ix (.var 0) (.bin .add (.var 1) (.cst (.int 1))))]),
  .ret (.tup [(.call 28 [(.var 3), (.call 29 [(.var 2), (.call 30 [(.var 5), (.var 3)])])]), (.call 28 [(.var 4), (.call 29 [(.var 2), (.call 30 [(.var 6), (.var 4)])])])])]
/-- _law_is_above -/
def b37 : List CS := [
  .par [3, 4] [(false, (.call 30 [(.ix (.var 1) (.cst (.int 0))), (.ix (.var 0) (.cst (.int 0)))])), (false, (.call 30 [(.ix (.var 1) (.cst (.int 1))), (.ix (.var 0) (.cst (.int 1)))]))],
  .ret (.call 31 [(.call 29 [(.var 4), (.call 30 [(.ix (.var 2) (.cst (.int 0))), (.ix (.var 0) (.cst (.int 0)))])]), (.call 29 [(.var 3), (.call 30 [(.ix (.var 2) (.cst (.int 1))), (.ix (.var 0) (.cst (.int 1)))])])])]
/-- _law_sees -/
def b38 : List CS := [
  .asg (.nm 4) (.tup [(.var 2), (.var 1)]),
  .sif (.cmp .eq (.var 2) (.ix (.var 3) (.cst (.int 0)))) [.ret (.cst (.bool true))] [],
  .asg (.tup [(.nm 5), (.nm 6)]) (.ite (.call 31 [(.var 2), (.ix (.var 3) (.cst (.int 0)))]) (.tup [(.var 4), (.var 3)]) (.tup [(.var 3), (.var 4)])),
  .sfor (.nm 7) (.var 0) [.sif (.and (.call 31 [(.ix (.var 5) (.cst (.int 0))), (.ix (.var 7) (.cst (.int 0)))]) (.and (.call 31 [(.ix (.var 7) (.cst (.int 0))), (.ix (.var 6) (.cst (.int 0)))]) (.call 37 [(.var 5), (.var 6), (.var 7)]))) [.ret (.cst (.bool false))] []],
  .ret (.cst (.bool true))]
/-- _law_reach -/
def b39 : List CS := [
  .par [3, 4, 5] [(true, (.lst [(.ix (.ix (.var 0) (.cst (.int 0))) (.cst (.int 0)))])), (true, (.lst [(.ix (.ix (.var 0) (.neg (.cst (.int 1)))) (.cst (.int 0)))])), (false, (.call 30 [(.var 1), (.ix (.var 2) (.cst (.int 1)))]))],
  .sfor (.tup [(.nm 6), (.nm 7)]) (.var 0) [.sif (.and (.call 31 [(.ix (.var 2) (.cst (.int 1))), (.var 7)]) (.cmp .ne (.var 6) (.ix (.var 2) (.cst (.int 0))))) [
      .asg (.nm 8) (.call 28 [(.ix (.var 2) (.cst (.int 0))), (.call 32 [(.call 29 [(.var 5), (.call 30 [(.var 6), (.ix (.var 2) (.cst (.int 0)))])]), (.call 30 [(.var 7), (.ix (.var 2) (.cst (.int 1)))])])]),
      .sif (.call 31 [(.ix (.var 2) (.cst (.int 0))), (.var 6)]) [.expr (.met .append (.var 4) [(.var 8)])] [.expr (.met .append (.var 3) [(.var 8)])]] []],
  .ret (.tup [(.call 34 [(.var 3)]), (.call 33 [(.var 4)])])]
/-- _law_draw_ridge -/
def b40 : List CS := [
  .par [2, 3, 4] [(false, (.bin .sub (.call 45 [(.var 0), (.cst (.int 7))]) (.cst (.int 3)))), (false, (.call 45 [(.var 0), (.cst (.int 3))])), (true, (.lst []))],
  .asg (.nm 5) (.and (.cmp .gt (.var 1) (.cst (.int 4))) (.cmp .eq (.call 45 [(.var 0), (.cst (.int 2))]) (.cst (.int 0)))),
  .sfor (.nm 6) (.rng (.cst (.int 0)) (.ite (.var 5) (.bin .add (.var 1) (.call 45 [(.var 0), (.cst (.int 3))])) (.bin .add (.cst (.int 2)) (.call 45 [(.var 0), (.bin .sub (.var 1) (.cst (.int 1)))])))) [
    .asg (.nm 7) (.lst [(.cst (.int 0)), (.cst (.int 0)), (.cst (.int 1)), (.cst (.int 3)), (.cst (.int 5)), (.cst (.int 8))]),
    .sif (.var 5) [.asg (.nm 7) (.ite (.cmp .eq (.bin .mod (.bf .int [(.bin .add (.var 6) (.var 3))]) (.cst (.int 3))) (.cst (.int 1))) (.lst [(.cst (.int 0)), (.cst (.int 0)), (.cst (.int 1)), (.cst (.int 2))]) (.lst [(.cst (.int 6)), (.cst (.int 7)), (.cst (.int 8)), (.cst (.int 8))]))] [],
    .asg (.nm 8) (.bin .add (.bin .mul (.cst (.int 2)) (.ix (.var 7) (.call 45 [(.var 0), (.bf .len [(.var 7)])]))) (.bf .int [(.cmp .eq (.call 45 [(.var 0), (.cst (.int 5))]) (.cst (.int 0)))])),
    .expr (.met .append (.var 4) [(.tup [(.tup [(.var 2), (.cst (.int 1))]), (.call 27 [(.var 8), (.cst (.int 2))])])]),
    .asg (.nm 2) (.bin .add (.bin .add (.var 2) (.cst (.int 1))) (.ite (.var 5) (.bf .int [(.cmp .eq (.call 45 [(.var 0), (.cst (.int 4))]) (.cst (.int 0)))]) (.call 45 [(.var 0), (.cst (.int 3))])))],
  .ret (.bf .tuple [(.var 4)])]
/-- _law_draw_height -/
def b41 : List CS := [
  .asg (.nm 2) (.call 34 [(.comp [3, 4] (.tup [(.nm 3), (.nm 4)]) (.var 1) [] (.var 4))]),
  .sif (.cmp .gt (.call 45 [(.var 0), (.cst (.int 4))]) (.cst (.int 0))) [.ret (.call 28 [(.var 2), (.call 27 [(.bin .add (.cst (.int 1)) (.call 45 [(.var 0), (.cst (.int 3))])), (.ix (.lst [(.cst (.int 2)), (.cst (.int 4)), (.cst (.int 8)), (.cst (.int 16))]) (.call 45 [(.var 0), (.cst (.int 4))]))])])] [],
  .ret (.call 28 [(.var 2), (.call 27 [(.bin .add (.cst (.int 1)) (.call 45 [(.var 0), (.cst (.int 9))])), (.ix (.lst [(.cst (.int 1)), (.cst (.int 2)), (.cst (.int 4))]) (.call 45 [(.var 0), (.cst (.int 3))]))])])]
/-- _law_draw_place -/
def b42 : List CS := [
  .asg (.nm 2) (.call 30 [(.ix (.ix (.var 1) (.neg (.cst (.int 1)))) (.cst (.int 0))), (.ix (.ix (.var 1) (.cst (.int 0))) (.cst (.int 0)))]),
  .ret (.call 28 [(.ix (.ix (.var 1) (.cst (.int 0))) (.cst (.int 0))), (.call 29 [(.var 2), (.tup [(.call 45 [(.var 0), (.cst (.int 13))]), (.cst (.int 12))])])])]
/-- _law_draw_ground -/
def b43 : List CS := [.ret (.tup [(.call 45 [(.var 0), (.bin .sub (.bf .len [(.var 1)]) (.cst (.int 1)))]), (.call 27 [(.call 45 [(.var 0), (.cst (.int 7))]), (.cst (.int 6))])])]
/-- law -/
def b44 : List CS := [
  .opn 1 (.var 0),
  .sfor (.nm 2) (.rng (.cst (.int 0)) (.cst (.int 3))) [
    .asg (.nm 3) (.call 40 [(.var 1), (.cst (.int 6))]),
    .asg (.nm 4) (.call 41 [(.var 1), (.var 3)]),
    .asg (.nm 5) (.comp [6] (.nm 6) (.rng (.cst (.int 0)) (.cst (.int 4))) [] (.call 43 [(.var 1), (.var 3)])),
    .asg (.nm 7) (.comp [8, 9] (.tup [(.nm 8), (.nm 9)]) (.var 5) [] (.call 36 [(.var 3), (.var 8), (.var 9)])),
    .asg (.nm 10) (.comp [11] (.nm 11) (.var 7) [] (.call 39 [(.var 3), (.var 4), (.var 11)])),
    .sif (.cmp .ne (.comp [12] (.nm 12) (.var 5) [] (.call 16 [(.var 3), (.var 12)])) (.var 7)) [.ret (.cst (.bool false))] [],
    .sif (.cmp .ne (.comp [13] (.nm 13) (.var 5) [] (.call 24 [(.var 3), (.var 4), (.var 13)])) (.var 10)) [.ret (.cst (.bool false))] [],
    .asg (.nm 14) (.comp [6] (.nm 6) (.rng (.cst (.int 0)) (.cst (.int 4))) [] (.call 42 [(.var 1), (.var 3)])),
    .sfor (.tup [(.nm 15), (.nm 16)]) (.var 10) [
      .asg (.nm 14) (.bin .add (.var 14) (.lst [(.var 15), (.var 16), (.call 32 [(.call 28 [(.var 15), (.var 16)]), (.tup [(.cst (.int 2)), (.cst (.int 1))])])])),
      .asg (.nm 14) (.bin .add (.var 14) (.lst [(.call 30 [(.var 15), (.tup [(.cst (.int 1)), (.cst (.int 97))])]), (.call 28 [(.var 16), (.tup [(.cst (.int 1)), (.cst (.int 97))])])]))],
    .asg (.nm 14) (.comp [17] (.nm 17) (.call 35 [(.var 14)]) [(.call 18 [(.var 3), (.var 17)])] (.var 17)),
    .sfor (.tup [(.nm 12), (.nm 11), (.tup [(.nm 15), (.nm 16)])]) (.zip3 (.var 5) (.var 7) (.var 10)) [
      .asg (.nm 18) (.comp [17] (.nm 17) (.var 14) [(.and (.not (.call 31 [(.var 17), (.var 15)])) (.not (.call 31 [(.var 16), (.var 17)])))] (.var 17)),
      .sif (.cmp .ne (.comp [17] (.nm 17) (.var 14) [(.call 38 [(.var 3), (.var 4), (.var 17), (.var 11)])] (.var 17)) (.var 18)) [.ret (.cst (.bool false))] [],
      .sif (.cmp .ne (.bf .list [(.call 22 [(.var 3), (.var 4), (.var 14), (.var 12)])]) (.var 18)) [.ret (.cst (.bool false))] [],
      .sif (.cmp .ne (.comp [17] (.nm 17) (.var 14) [(.call 21 [(.var 3), (.var 4), (.var 17), (.var 12)])] (.var 17)) (.var 18)) [.ret (.cst (.bool false))] []],
    .asg (.tup [(.nm 15), (.nm 16)]) (.tup [(.call 34 [(.comp [13] (.nm 13) (.var 10) [] (.ix (.var 13) (.cst (.int 0))))]), (.call 33 [(.comp [13] (.nm 13) (.var 10) [] (.ix (.var 13) (.cst (.int 1))))])]),
    .sif (.cmp .ne (.call 25 [(.var 3), (.var 4), (.var 5)]) (.tup [(.var 15), (.var 16)])) [.ret (.cst (.bool false))] [],
    .asg (.nm 19) (.comp [13] (.nm 13) (.var 10) [] (.bf .any [(.comp [20] (.nm 20) (.var 10) [] (.call 31 [(.ix (.var 20) (.cst (.int 1))), (.ix (.var 13) (.cst (.int 0)))]))])),
    .sif (.cmp .ne (.call 31 [(.var 16), (.var 15)]) (.bf .any [(.var 19)])) [.ret (.cst (.bool false))] []],
  .ret (.cst (.bool true))]
def e0 : Ent := ⟨"is_integer", s0, ["value"], ["value"], [], b0⟩
def e1 : Ent := ⟨"common", s1, ["one", "other"], ["one", "other"], [], b1⟩
def e2 : Ent := ⟨"is_fraction", s2, ["value"], ["value"], [], b2⟩
def e3 : Ent := ⟨"fraction", s3, ["u", "e"], ["u", "e", "unit"], [], b3⟩
def e4 : Ent := ⟨"added", s4, ["x", "y"], ["x", "y"], [], b4⟩
def e5 : Ent := ⟨"lessened", s5, ["x", "y"], ["x", "y"], [], b5⟩
def e6 : Ent := ⟨"multiplied", s6, ["x", "y"], ["x", "y"], [], b6⟩
def e7 : Ent := ⟨"divided", s7, ["x", "y"], ["x", "y"], [], b7⟩
def e8 : Ent := ⟨"compared", s8, ["x", "y"], ["x", "y", "gap"], [], b8⟩
def e9 : Ent := ⟨"least_of", s9, ["some"], ["some", "found", "one"], [], b9⟩
def e10 : Ent := ⟨"greatest_of", s10, ["some"], ["some", "found", "one"], [], b10⟩
def e11 : Ent := ⟨"between", s11, ["x", "y", "t"], ["x", "y", "t"], [], b11⟩
def e12 : Ent := ⟨"height_at", s12, ["a", "b", "x"], ["a", "b", "x"], [], b12⟩
def e13 : Ent := ⟨"place_at", s13, ["a", "b", "y"], ["a", "b", "y"], [], b13⟩
def e14 : Ent := ⟨"spot_between", s14, ["a", "b", "t"], ["a", "b", "t"], [], b14⟩
def e15 : Ent := ⟨"is_within", s15, ["value", "least", "greatest"], ["value", "least", "greatest"], [], b15⟩
def e16 : Ent := ⟨"spot_of", s16, ["ridge", "ground"], ["ridge", "ground", "i", "t"], [], b16⟩
def e17 : Ent := ⟨"line_of", s17, ["ridge"], ["ridge"], [], b17⟩
def e18 : Ent := ⟨"is_place", s18, ["ridge", "value"], ["ridge", "value"], [], b18⟩
def e19 : Ent := ⟨"is_under", s19, ["x", "y"], ["x", "y"], [], b19⟩
def e20 : Ent := ⟨"barring", s20, ["ridge", "h", "x", "g"], ["ridge", "h", "x", "g", "drone", "spot", "low", "high", "found", "k", "corner"], [8], b20⟩
def e21 : Ent := ⟨"sees", s21, ["ridge", "h", "x", "g"], ["ridge", "h", "x", "g"], [], b21⟩
def e22 : Ent := ⟨"seen_by", s22, ["ridge", "h", "drones", "g"], ["ridge", "h", "drones", "g", "x"], [], b22⟩
def e23 : Ent := ⟨"sight_places", s23, ["ridge", "h", "g"], ["ridge", "h", "g", "spot", "left", "right", "k", "corner"], [4, 5], b23⟩
def e24 : Ent := ⟨"reach", s24, ["ridge", "h", "g"], ["ridge", "h", "g", "left", "right", "first", "last", "low", "place", "k"], [], b24⟩
def e25 : Ent := ⟨"common_reach", s25, ["ridge", "h", "spots"], ["ridge", "h", "spots", "reaches", "g", "low", "high"], [], b25⟩
def e26 : Ent := ⟨"_law_common", s26, ["a", "b"], ["a", "b"], [], b26⟩
def e27 : Ent := ⟨"_law_fraction", s27, ["u", "d"], ["u", "d", "unit"], [], b27⟩
def e28 : Ent := ⟨"_law_sum", s28, ["x", "y"], ["x", "y"], [], b28⟩
def e29 : Ent := ⟨"_law_times", s29, ["x", "y"], ["x", "y"], [], b29⟩
def e30 : Ent := ⟨"_law_less", s30, ["x", "y"], ["x", "y"], [], b30⟩
def e31 : Ent := ⟨"_law_below", s31, ["x", "y"], ["x", "y"], [], b31⟩
def e32 : Ent := ⟨"_law_over", s32, ["x", "y"], ["x", "y"], [], b32⟩
def e33 : Ent := ⟨"_law_least", s33, ["fractions"], ["fractions", "best", "x"], [], b33⟩
def e34 : Ent := ⟨"_law_most", s34, ["fractions"], ["fractions", "best", "x"], [], b34⟩
def e35 : Ent := ⟨"_law_sorted", s35, ["fractions"], ["fractions", "found", "rest", "x", "best"], [1, 2], b35⟩
def e36 : Ent := ⟨"_law_spot", s36, ["ridge", "i", "t"], ["ridge", "i", "t", "x0", "y0", "x1", "y1"], [], b36⟩
def e37 : Ent := ⟨"_law_is_above", s37, ["one", "other", "spot"], ["one", "other", "spot", "run", "rise"], [], b37⟩
def e38 : Ent := ⟨"_law_sees", s38, ["ridge", "height", "x", "spot"], ["ridge", "height", "x", "spot", "drone", "one", "other", "corner"], [], b38⟩
def e39 : Ent := ⟨"_law_reach", s39, ["ridge", "height", "spot"], ["ridge", "height", "spot", "lows", "highs", "up", "x", "y", "far"], [3, 4], b39⟩
def e40 : Ent := ⟨"_law_draw_ridge", s40, ["source", "most"], ["source", "most", "x", "turn", "found", "is_comb", "lap", "ys", "y"], [4], b40⟩
def e41 : Ent := ⟨"_law_draw_height", s41, ["source", "ridge"], ["source", "ridge", "top", "x", "y"], [], b41⟩
def e42 : Ent := ⟨"_law_draw_place", s42, ["source", "ridge"], ["source", "ridge", "span"], [], b42⟩
def e43 : Ent := ⟨"_law_draw_ground", s43, ["source", "ridge"], ["source", "ridge"], [], b43⟩
def e44 : Ent := ⟨"law", s44, ["script"], ["script", "source", "lap", "ridge", "height", "grounds", "turn", "spots", "i", "t", "reaches", "spot", "ground", "one", "drones", "low", "high", "x", "seen", "some", "other"], [1], b44⟩
def refL : List (Option Nat) := [none, none, none, none, none, none, none, none, none, none, none, none, none, none, none, none, none, none, none, none, none, none, none, none, none, none, none, none, none, none, none, none, none, none, none, none, none, none, none, none, some 0, some 0, some 0, some 0, none, some 0]
def G : Prog := ⟨[e0, e1, e2, e3, e4, e5, e6, e7, e8, e9, e10, e11, e12, e13, e14, e15, e16, e17, e18, e19, e20, e21, e22, e23, e24, e25, e26, e27, e28, e29, e30, e31, e32, e33, e34, e35, e36, e37, e38, e39, e40, e41, e42, e43, e44], "_law_pick", "_law_open_cells", fun i => (refL[i]?).join⟩
theorem ok0 : EntOk G e0 := ⟨⟨rfl, rfl, rfl, by decide +kernel, rfl, by decide +kernel, by decide +kernel⟩, by kernel_rfl⟩
theorem ok1 : EntOk G e1 := ⟨⟨rfl, rfl, rfl, by decide +kernel, rfl, by decide +kernel, by decide +kernel⟩, by kernel_rfl⟩
theorem ok2 : EntOk G e2 := ⟨⟨rfl, rfl, rfl, by decide +kernel, rfl, by decide +kernel, by decide +kernel⟩, by kernel_rfl⟩
theorem ok3 : EntOk G e3 := ⟨⟨rfl, rfl, rfl, by decide +kernel, rfl, by decide +kernel, by decide +kernel⟩, by kernel_rfl⟩
theorem ok4 : EntOk G e4 := ⟨⟨rfl, rfl, rfl, by decide +kernel, rfl, by decide +kernel, by decide +kernel⟩, by kernel_rfl⟩
theorem ok5 : EntOk G e5 := ⟨⟨rfl, rfl, rfl, by decide +kernel, rfl, by decide +kernel, by decide +kernel⟩, by kernel_rfl⟩
theorem ok6 : EntOk G e6 := ⟨⟨rfl, rfl, rfl, by decide +kernel, rfl, by decide +kernel, by decide +kernel⟩, by kernel_rfl⟩
theorem ok7 : EntOk G e7 := ⟨⟨rfl, rfl, rfl, by decide +kernel, rfl, by decide +kernel, by decide +kernel⟩, by kernel_rfl⟩
theorem ok8 : EntOk G e8 := ⟨⟨rfl, rfl, rfl, by decide +kernel, rfl, by decide +kernel, by decide +kernel⟩, by kernel_rfl⟩
theorem ok9 : EntOk G e9 := ⟨⟨rfl, rfl, rfl, by decide +kernel, rfl, by decide +kernel, by decide +kernel⟩, by kernel_rfl⟩
theorem ok10 : EntOk G e10 := ⟨⟨rfl, rfl, rfl, by decide +kernel, rfl, by decide +kernel, by decide +kernel⟩, by kernel_rfl⟩
theorem ok11 : EntOk G e11 := ⟨⟨rfl, rfl, rfl, by decide +kernel, rfl, by decide +kernel, by decide +kernel⟩, by kernel_rfl⟩
theorem ok12 : EntOk G e12 := ⟨⟨rfl, rfl, rfl, by decide +kernel, rfl, by decide +kernel, by decide +kernel⟩, by kernel_rfl⟩
theorem ok13 : EntOk G e13 := ⟨⟨rfl, rfl, rfl, by decide +kernel, rfl, by decide +kernel, by decide +kernel⟩, by kernel_rfl⟩
theorem ok14 : EntOk G e14 := ⟨⟨rfl, rfl, rfl, by decide +kernel, rfl, by decide +kernel, by decide +kernel⟩, by kernel_rfl⟩
theorem ok15 : EntOk G e15 := ⟨⟨rfl, rfl, rfl, by decide +kernel, rfl, by decide +kernel, by decide +kernel⟩, by kernel_rfl⟩
theorem ok16 : EntOk G e16 := ⟨⟨rfl, rfl, rfl, by decide +kernel, rfl, by decide +kernel, by decide +kernel⟩, by kernel_rfl⟩
theorem ok17 : EntOk G e17 := ⟨⟨rfl, rfl, rfl, by decide +kernel, rfl, by decide +kernel, by decide +kernel⟩, by kernel_rfl⟩
theorem ok18 : EntOk G e18 := ⟨⟨rfl, rfl, rfl, by decide +kernel, rfl, by decide +kernel, by decide +kernel⟩, by kernel_rfl⟩
theorem ok19 : EntOk G e19 := ⟨⟨rfl, rfl, rfl, by decide +kernel, rfl, by decide +kernel, by decide +kernel⟩, by kernel_rfl⟩
theorem ok20 : EntOk G e20 := ⟨⟨rfl, rfl, rfl, by decide +kernel, rfl, by decide +kernel, by decide +kernel⟩, by kernel_rfl⟩
theorem ok21 : EntOk G e21 := ⟨⟨rfl, rfl, rfl, by decide +kernel, rfl, by decide +kernel, by decide +kernel⟩, by kernel_rfl⟩
theorem ok22 : EntOk G e22 := ⟨⟨rfl, rfl, rfl, by decide +kernel, rfl, by decide +kernel, by decide +kernel⟩, by kernel_rfl⟩
theorem ok23 : EntOk G e23 := ⟨⟨rfl, rfl, rfl, by decide +kernel, rfl, by decide +kernel, by decide +kernel⟩, by kernel_rfl⟩
theorem ok24 : EntOk G e24 := ⟨⟨rfl, rfl, rfl, by decide +kernel, rfl, by decide +kernel, by decide +kernel⟩, by kernel_rfl⟩
theorem ok25 : EntOk G e25 := ⟨⟨rfl, rfl, rfl, by decide +kernel, rfl, by decide +kernel, by decide +kernel⟩, by kernel_rfl⟩
theorem ok26 : EntOk G e26 := ⟨⟨rfl, rfl, rfl, by decide +kernel, rfl, by decide +kernel, by decide +kernel⟩, by kernel_rfl⟩
theorem ok27 : EntOk G e27 := ⟨⟨rfl, rfl, rfl, by decide +kernel, rfl, by decide +kernel, by decide +kernel⟩, by kernel_rfl⟩
theorem ok28 : EntOk G e28 := ⟨⟨rfl, rfl, rfl, by decide +kernel, rfl, by decide +kernel, by decide +kernel⟩, by kernel_rfl⟩
theorem ok29 : EntOk G e29 := ⟨⟨rfl, rfl, rfl, by decide +kernel, rfl, by decide +kernel, by decide +kernel⟩, by kernel_rfl⟩
theorem ok30 : EntOk G e30 := ⟨⟨rfl, rfl, rfl, by decide +kernel, rfl, by decide +kernel, by decide +kernel⟩, by kernel_rfl⟩
theorem ok31 : EntOk G e31 := ⟨⟨rfl, rfl, rfl, by decide +kernel, rfl, by decide +kernel, by decide +kernel⟩, by kernel_rfl⟩
theorem ok32 : EntOk G e32 := ⟨⟨rfl, rfl, rfl, by decide +kernel, rfl, by decide +kernel, by decide +kernel⟩, by kernel_rfl⟩
theorem ok33 : EntOk G e33 := ⟨⟨rfl, rfl, rfl, by decide +kernel, rfl, by decide +kernel, by decide +kernel⟩, by kernel_rfl⟩
theorem ok34 : EntOk G e34 := ⟨⟨rfl, rfl, rfl, by decide +kernel, rfl, by decide +kernel, by decide +kernel⟩, by kernel_rfl⟩
theorem ok35 : EntOk G e35 := ⟨⟨rfl, rfl, rfl, by decide +kernel, rfl, by decide +kernel, by decide +kernel⟩, by kernel_rfl⟩
theorem ok36 : EntOk G e36 := ⟨⟨rfl, rfl, rfl, by decide +kernel, rfl, by decide +kernel, by decide +kernel⟩, by kernel_rfl⟩
theorem ok37 : EntOk G e37 := ⟨⟨rfl, rfl, rfl, by decide +kernel, rfl, by decide +kernel, by decide +kernel⟩, by kernel_rfl⟩
theorem ok38 : EntOk G e38 := ⟨⟨rfl, rfl, rfl, by decide +kernel, rfl, by decide +kernel, by decide +kernel⟩, by kernel_rfl⟩
theorem ok39 : EntOk G e39 := ⟨⟨rfl, rfl, rfl, by decide +kernel, rfl, by decide +kernel, by decide +kernel⟩, by kernel_rfl⟩
theorem ok40 : EntOk G e40 := ⟨⟨rfl, rfl, rfl, by decide +kernel, rfl, by decide +kernel, by decide +kernel⟩, by kernel_rfl⟩
theorem ok41 : EntOk G e41 := ⟨⟨rfl, rfl, rfl, by decide +kernel, rfl, by decide +kernel, by decide +kernel⟩, by kernel_rfl⟩
theorem ok42 : EntOk G e42 := ⟨⟨rfl, rfl, rfl, by decide +kernel, rfl, by decide +kernel, by decide +kernel⟩, by kernel_rfl⟩
theorem ok43 : EntOk G e43 := ⟨⟨rfl, rfl, rfl, by decide +kernel, rfl, by decide +kernel, by decide +kernel⟩, by kernel_rfl⟩
theorem ok44 : EntOk G e44 := ⟨⟨rfl, rfl, rfl, by decide +kernel, rfl, by decide +kernel, by decide +kernel⟩, by kernel_rfl⟩
theorem ok_all : ∀ e ∈ G.ents, EntOk G e := List.forall_mem_cons.mpr ⟨ok0, List.forall_mem_cons.mpr ⟨ok1, List.forall_mem_cons.mpr ⟨ok2, List.forall_mem_cons.mpr ⟨ok3, List.forall_mem_cons.mpr ⟨ok4, List.forall_mem_cons.mpr ⟨ok5, List.forall_mem_cons.mpr ⟨ok6, List.forall_mem_cons.mpr ⟨ok7, List.forall_mem_cons.mpr ⟨ok8, List.forall_mem_cons.mpr ⟨ok9, List.forall_mem_cons.mpr ⟨ok10, List.forall_mem_cons.mpr ⟨ok11, List.forall_mem_cons.mpr ⟨ok12, List.forall_mem_cons.mpr ⟨ok13, List.forall_mem_cons.mpr ⟨ok14, List.forall_mem_cons.mpr ⟨ok15, List.forall_mem_cons.mpr ⟨ok16, List.forall_mem_cons.mpr ⟨ok17, List.forall_mem_cons.mpr ⟨ok18, List.forall_mem_cons.mpr ⟨ok19, List.forall_mem_cons.mpr ⟨ok20, List.forall_mem_cons.mpr ⟨ok21, List.forall_mem_cons.mpr ⟨ok22, List.forall_mem_cons.mpr ⟨ok23, List.forall_mem_cons.mpr ⟨ok24, List.forall_mem_cons.mpr ⟨ok25, List.forall_mem_cons.mpr ⟨ok26, List.forall_mem_cons.mpr ⟨ok27, List.forall_mem_cons.mpr ⟨ok28, List.forall_mem_cons.mpr ⟨ok29, List.forall_mem_cons.mpr ⟨ok30, List.forall_mem_cons.mpr ⟨ok31, List.forall_mem_cons.mpr ⟨ok32, List.forall_mem_cons.mpr ⟨ok33, List.forall_mem_cons.mpr ⟨ok34, List.forall_mem_cons.mpr ⟨ok35, List.forall_mem_cons.mpr ⟨ok36, List.forall_mem_cons.mpr ⟨ok37, List.forall_mem_cons.mpr ⟨ok38, List.forall_mem_cons.mpr ⟨ok39, List.forall_mem_cons.mpr ⟨ok40, List.forall_mem_cons.mpr ⟨ok41, List.forall_mem_cons.mpr ⟨ok42, List.forall_mem_cons.mpr ⟨ok43, List.forall_mem_cons.mpr ⟨ok44, List.forall_mem_nil _⟩⟩⟩⟩⟩⟩⟩⟩⟩⟩⟩⟩⟩⟩⟩⟩⟩⟩⟩⟩⟩⟩⟩⟩⟩⟩⟩⟩⟩⟩⟩⟩⟩⟩⟩⟩⟩⟩⟩⟩⟩⟩⟩⟩⟩
/-! ### the laws' drawing def and their opener -/
theorem scP : FnScope ["source", "most", "cells", "others", "lap", "stirred"] ["source", "most"] (defScope sPick) := ⟨rfl, rfl, rfl, by decide +kernel, rfl, by decide +kernel, by decide +kernel⟩
section
variable {P : Program} {w : World} {K : PySem.W.Frag} {mg : Str → Option Value} {base : Heap}
theorem pick_ok {f : Addr} {fd : FuncData} (Fn : L2.Fun K "_law_pick" "_law_pick" sPick f fd) (ml : mg "len" = none) (mi : mg "int" = none) {i : Nat} : FnOk P w K mg base L2.CX0 1 f fd ["source", "most"] (spC K pickO i) := by
  refine Fn.ok (k := 0) scP (spC_len fun args S r e => ?_) (fun cdv A outer s H vs Q E hr h => ?_)
  · unfold pickO at e
    split at e
    · rfl
    · cases e
  · have hu := hu_of hr
    have it : ∀ {X : Cx} {e : Expr} {te : TE} {p pos : Pos}, Gl X "int" → X.mg "int" = none → nst e = true → PE X e te → PE X (.Call (.Name "int" p) [e] [] pos) (tCB (fun xs H Q => (∃ i, xs = [.int i] ∧ Q (.int i) H) ∨ ∃ k, xs = [.bl k] ∧ Q (.int (if k then 1 else 0)) H) (tCons te tNil)) := fun hg hm hs he =>
      pe_callTy call_int1 hg hm PyProof.Rows.boot_int (pa_cons he pa_nil (nst_ok hs [] _)) (by decide) (by decide) (nst_ok hs [] _) rfl
    obtain ⟨φ, F, S, args, r, hl, hrp, e, q⟩ := h
    obtain ⟨most, cells, l, m, t0, z, o', rfl, rfl, ep, rfl⟩ := pickO_ok e
    obtain ⟨p, c, hq, hc, rfl, h0⟩ := pick_start hl hrp
    have fin : ∀ {H' : Hp} {cells' : List Int} {l' m' t' z' : Int}, SrcAt H H' p.1 c cells' l' m' t' → z = z' → o' = .src cells' l' m' t' → Q (.int z') H' := fun h ez eo => by
      subst ez eo
      obtain ⟨st, hl'⟩ := h.fin hl hq hc
      exact q _ _ st hl' (RD.int z) (fun h => nomatch h)
    have gc : ∀ {H' : Hp} {cells' : List Int} {l' m' t' : Int}, SrcAt H H' p.1 c cells' l' m' t' → DGet H' p.1 (.str "cells") (some (.ref c)) := fun h => by
      have := DGet.k (k := (.inr "cells" : L2.Key)) h.d
      rw [val_cells] at this
      exact this
    have gl : ∀ {H' : Hp} {cells' : List Int} {l' m' t' : Int}, SrcAt H H' p.1 c cells' l' m' t' → DGet H' p.1 (.str "left") (some (.int l')) := fun h => by
      have := DGet.k (k := (.inr "left" : L2.Key)) h.d
      rw [val_left] at this
      exact this
    have gm : ∀ {H' : Hp} {cells' : List Int} {l' m' t' : Int}, SrcAt H H' p.1 c cells' l' m' t' → DGet H' p.1 (.str "mixed") (some (.int m')) := fun h => by
      have := DGet.k (k := (.inr "mixed" : L2.Key)) h.d
      rw [val_mixed] at this
      exact this
    have gt : ∀ {H' : Hp} {cells' : List Int} {l' m' t' : Int}, SrcAt H H' p.1 c cells' l' m' t' → DGet H' p.1 (.str "turn") (some (.int t')) := fun h => by
      have := DGet.k (k := (.inr "turn" : L2.Key)) h.d
      rw [val_turn] at this
      exact this
    have z4 : ∀ (c : Addr) (a b d : Int), (srcKeys c a b d).length < sizeLine := fun _ _ _ _ => by show 4 < sizeLine; decide
    have ul : ∀ {H' : Hp} {cells' : List Int} {l' m' t' : Int} (x : Int), SrcAt H H' p.1 c cells' l' m' t' → DPut H' p.1 (.str "left") (.int x) (upd H' p.1 (.dK (srcKeys c x m' t'))) := fun x h => by
      have := DPut.k (k := (.inr "left" : L2.Key)) (v := .int x) h.d (z4 _ _ _ _)
      rw [put_left] at this
      exact this
    have ut : ∀ {H' : Hp} {cells' : List Int} {l' m' t' : Int} (x : Int), SrcAt H H' p.1 c cells' l' m' t' → DPut H' p.1 (.str "turn") (.int x) (upd H' p.1 (.dK (srcKeys c l' m' x))) := fun x h => by
      have := DPut.k (k := (.inr "turn" : L2.Key)) (v := .int x) h.d (z4 _ _ _ _)
      rw [put_turn] at this
      exact this
    simp only [pickF] at ep
    have tail : ∃ t, PSs (cxOf L2.CX0 P w K mg base ["source", "most", "cells", "others", "lap", "stirred"] "_law_pick" (defScope sPick) f cdv A outer s H E).nox ((defBody sPick).drop 3) t ∧ ∀ H1 cells' l', ¬ most < 2 → SrcAt H H1 p.1 c cells' l' m t0 → drain cells l = (cells', l') →
        t { nx := fun _ H' => Q .non H', rt := Q } [some (.ref p.1), some (.int most), some (.ref c), none, none, none] H1 := by
      refine ⟨_, pss_cons (ps_set (i := 3) scP.nd rfl (.inl rfl) (pe_dget hu (pv 0) pe_str (fun _ _ => rfl)))
        (pss_cons (ps_if (pt_cmpR op_gt (pv 3) pe_int (nomark _)) (pss_cons (ps_dput hu (pv 0) pe_str (pe_op op_fdivN (pv 3) (pv 1)) rfl) (pss_one (ps_ret (pe_op op_modN (it (by rfl) mi rfl (pv 3)) (pv 1))))) pss_nil)
        (pss_cons (ps_dput hu (pv 0) pe_str (pe_op op_add (pe_dget hu (pv 0) pe_str (fun _ _ => rfl)) pe_int) rfl)
        (pss_cons (ps_set (i := 4) scP.nd rfl (.inl rfl) (pe_dget hu (pv 0) pe_str (fun _ _ => rfl)))
        (pss_cons (ps_set (i := 5) scP.nd rfl (.inl rfl) (pe_op op_modN (it (by rfl) mi rfl (pe_op op_add (pe_dget hu (pv 0) pe_str (fun _ _ => rfl)) (pe_op op_mul (pv 4) pe_int))) pe_int))
        (pss_cons (ps_set (i := 5) scP.nd rfl (.inl rfl) (pe_op op_modN (it (by rfl) mi rfl (pe_op op_add (pe_op op_mul (pv 5) (pv 5)) (pe_op op_mul (pv 4) pe_int))) pe_int))
        (pss_one (ps_ret (pe_op op_modN (it (by rfl) mi rfl (pe_op op_fdivN (pv 5) pe_int)) (pv 1))))))))), fun H1 cells' l' h1 h2 hd => ?_⟩
      rw [if_neg h1, hd] at ep
      simp only at ep
      refine ⟨.ref p.1, rfl, p.1, _, rfl, gl h2, ?_⟩
      refine ⟨.int l', rfl, l', 1, rfl, rfl, _, rfl, ite2 (fun h3 => ?_) (fun h3 => ?_)⟩
      · have h3 : l' > 1 := of_decide_eq_true h3
        rw [if_pos h3] at ep
        split at ep
        · rename_i hm
          cases ep
          have hb : most ≠ 0 := by omega
          have hb2 : most.natAbs < 1073741824 := by omega
          exact ⟨.int l', rfl, .int most, rfl, l', most, rfl, rfl, ⟨hb, hb2⟩, .ref p.1, rfl, p.1, _, rfl, ul _ h2, .int l', rfl, .inl ⟨l', rfl, .int most, rfl, l', most, rfl, rfl, hb, fin h2.put rfl rfl⟩⟩
        · cases ep
      · have h3 : ¬ l' > 1 := fun h => h3 (decide_eq_true h)
        rw [if_neg h3] at ep
        split at ep
        · rename_i hm
          cases ep
          have hb : most ≠ 0 := by omega
          have sq : ∀ x : Int, CMul (x.fmod 998244353) (x.fmod 998244353) := fun x => by
            have e1 := Int.fmod_nonneg_of_pos x (b := 998244353) (by decide)
            have e2 := Int.fmod_lt_of_pos x (b := 998244353) (by decide)
            exact .inr ⟨by omega, by omega⟩
          have h5 : SrcAt H (upd H1 p.1 (.dK (srcKeys c l' m (t0 + 1)))) p.1 c cells' l' m (t0 + 1) := h2.put
          refine ⟨.ref p.1, rfl, p.1, _, rfl, gt h2, t0, 1, rfl, rfl, .ref p.1, rfl, p.1, _, rfl, ut _ h2, ?_⟩
          refine ⟨.ref p.1, rfl, p.1, _, rfl, gt h5, ?_⟩
          refine ⟨.ref p.1, rfl, p.1, _, rfl, gm h5, .int (t0 + 1), rfl, t0 + 1, 104729, rfl, rfl, .inr ⟨by decide, by decide⟩, m, _, rfl, rfl, .inl ⟨_, rfl, _, 998244353, rfl, rfl, (show (998244353 : Int) ≠ 0 by decide), ?_⟩⟩
          refine ⟨_, rfl, _, rfl, _, _, rfl, rfl, sq _, .int (t0 + 1), rfl, t0 + 1, 17, rfl, rfl, .inr ⟨by decide, by decide⟩, _, _, rfl, rfl, .inl ⟨_, rfl, _, 2147483647, rfl, rfl, (show (2147483647 : Int) ≠ 0 by decide), ?_⟩⟩
          exact ⟨_, rfl, _, 16, rfl, rfl, ⟨by decide, by decide⟩, .inl ⟨_, rfl, .int most, rfl, _, most, rfl, rfl, hb, fin h5 rfl rfl⟩⟩
        · cases ep
    obtain ⟨tt, hT, readT⟩ := tail
    refine ⟨_, pss_cons (ps_if (pt_cmpR op_lt (pv 1) pe_int (nomark _)) (pss_one (ps_ret pe_int)) pss_nil)
      (pss_cons (ps_set (i := 2) scP.nd rfl (.inl rfl) (pe_dget hu (pv 0) pe_str (fun _ _ => rfl)))
      (pss_cons (ps_while PassesOwn.never (PW.pt (pw_and (pt_cmpR op_lt (pe_dget hu (pv 0) pe_str (fun _ _ => rfl)) pe_int (nomark _)) (pw_and1 (pt_cmpR op_gt (pe_callB call_len_seq (by rfl) ml PySem.boot_len (pa_cons (pv 2) pa_nil)) pe_int (nomark _)))))
        (pss_one (ps_dput hu (pv 0) pe_str (pe_bm0 PySem.F.plainAttrs_list PySem.F.slot_list_pop PySem.F.type_list_pop mt_pop (pv 2)) rfl))) hT)), ?_⟩
    -- if most < 2
    refine ⟨.int most, rfl, most, 2, rfl, rfl, _, rfl, ite2 (fun h1 => ?_) (fun h1 => ?_)⟩
    · rw [if_pos (of_decide_eq_true h1)] at ep
      cases ep
      exact fin h0 rfl rfl
    · have h1 : ¬ most < 2 := fun h => h1 (decide_eq_true h)
      rw [if_neg h1] at ep
      refine ⟨.ref p.1, rfl, p.1, .ref c, rfl, gc h0, ?_⟩
      -- while
      refine ⟨fun n σ H' => ∃ cells' l', SrcAt H H' p.1 c cells' l' m t0 ∧ σ = [some (.ref p.1), some (.int most), some (.ref c), none, none, none] ∧ drain cells' l' = drain cells l ∧ n = cells'.length,
        ⟨cells.length, cells, l, h0, rfl, rfl, rfl⟩, ?_⟩
      rintro n σ H1 ⟨cells', l', h2, rfl, hd, rfl⟩
      refine ⟨.ref p.1, rfl, p.1, _, rfl, gl h2, l', 2, rfl, rfl, _, rfl, ite2 (fun h3 => ?_) (fun h3 => ?_)⟩
      · have h3 : l' < 2 := of_decide_eq_true h3
        refine ⟨.ref c, rfl, c, _, rfl, .inl (.inl (.inl h2.ls)), _, 0, rfl, rfl, _, rfl, ite2 (fun h4 => ?_) (fun h4 => ?_)⟩
        · have h4 := of_decide_eq_true h4
          cases cells' with
          | nil => simp at h4
          | cons x cs =>
            refine ⟨fun σ' H' => SrcAt H H' p.1 c cs x m t0 ∧ σ' = [some (.ref p.1), some (.int most), some (.ref c), none, none, none], fun σ' H' hN => ⟨cs.length, by simp, cs, x, hN.1, hN.2, ?_, rfl⟩, ?_⟩
            · rw [← hd]
              simp [drain, h3]
            · have h5 : SrcAt H (upd H1 c (.lst (((x :: cs).map V.int).reverse.dropLast))) p.1 c cs l' m t0 := by
                have := h2.pop
                simpa using this
              exact ⟨.ref c, rfl, .inl ⟨rfl, _, .inl (.inl h2.ls)⟩, c, _, .int x, rfl, rfl, h2.ls, by simp, .ref p.1, rfl, p.1, _, rfl, ul x h5, h5.put, rfl⟩
        · have h4 : cells' = [] := by
            cases cells' with
            | nil => rfl
            | cons x cs => exact absurd (decide_eq_true (by simp)) h4
          subst h4
          have hd' : drain cells l = ([], l') := by rw [← hd]; rfl
          exact readT H1 [] l' h1 h2 hd'
      · have h3 : ¬ l' < 2 := fun h => h3 (decide_eq_true h)
        have hd' : drain cells l = (cells', l') := by
          rw [← hd]
          cases cells' with
          | nil => rfl
          | cons x cs => simp [drain, h3]
        exact readT H1 cells' l' h1 h2 hd'
theorem scO : FnScope ["script", "stirred", "cell", "cells"] ["script"] (defScope sOpen) := ⟨rfl, rfl, rfl, by decide +kernel, rfl, by decide +kernel, by decide +kernel⟩
theorem open_ok {f : Addr} {fd : FuncData} (Fn : L2.Fun K "_law_open_cells" "_law_open_cells" sOpen f fd) (ma : mg "abs" = none) (mi : mg "int" = none) : FnOk P w K mg base L2.CX0 1 f fd ["script"] (spOpen K) := by
  refine Fn.ok (k := 0) scO (fun vs H Q E h => ?_) (fun cdv A outer s H vs Q E hr h => ?_)
  · obtain ⟨a, is, rfl, _⟩ := h
    rfl
  · have hu := hu_of hr
    have it : ∀ {X : Cx} {e : Expr} {te : TE} {p pos : Pos}, Gl X "int" → X.mg "int" = none → nst e = true → PE X e te → PE X (.Call (.Name "int" p) [e] [] pos) (tCB (fun xs H Q => (∃ i, xs = [.int i] ∧ Q (.int i) H) ∨ ∃ k, xs = [.bl k] ∧ Q (.int (if k then 1 else 0)) H) (tCons te tNil)) := fun hg hm hs he =>
      pe_callTy call_int1 hg hm PyProof.Rows.boot_int (pa_cons he pa_nil (nst_ok hs [] _)) (by decide) (by decide) (nst_ok hs [] _) rfl
    obtain ⟨a, is, rfl, hS, hb, q⟩ := h
    refine ⟨_, pss_cons (ps_set (i := 1) scO.nd rfl (.inl rfl) pe_int)
      (pss_cons (ps_for PassesOwn.never rfl (pi_list (pv 0)) (pg_name (i := 2) scO.nd rfl (.inl rfl)) (pss_one (ps_set (i := 1) scO.nd rfl (.inl rfl) (pe_op op_modN (it (by rfl) mi rfl (pe_op op_add (pe_op op_add (pe_op op_mul (pv 1) pe_int) (pe_op op_mul (pv 2) pe_int)) pe_int)) pe_int))))
      (pss_cons (ps_setLc (i := 3) (own := [("cell", 2)]) rfl scO.nd rfl rfl (sw_true rfl rfl (by decide) (by decide +kernel)) (pi_list (pv 0)) (blkOk_by (by show blkC ["script", "stirred", "cell", "cells"] (defScope sOpen) _ _ = true; decide +kernel)) (fun s H C cl fp => pg_name (i := 2) scO.nd rfl (.inl rfl)) (fun s H C cl fp => pts_nil) (fun s H C cl fp => pe_callB call_abs (by rfl) ma PyProof.Rows.boot_abs (pa_cons (pv 2) pa_nil)))
      (pss_one (ps_ret (pe_disp (pps_cons pe_str (pe_revL (pv 3)) (pps_cons pe_str pe_int (pps_cons pe_str (pv 1) (pps_cons pe_str pe_int pps_nil)))) rfl rfl (by simp) (by decide)))))), ?_⟩
    -- the seed
    have g : ∀ {i : Nat} {x : V}, (is.map V.int)[i]? = some x → ∃ z, is[i]? = some z ∧ x = .int z := fun {i x} h => by
      rw [List.getElem?_map] at h
      obtain ⟨z, e1, e2⟩ := Option.map_eq_some_iff.mp h
      exact ⟨z, e1, e2.symm⟩
    refine ⟨.ref a, rfl, a, rfl, ⟨_, hS⟩, for_list (K := K) (a := a) (xs := is.map V.int) (fun i σ H2 => H2 = H ∧ ∃ x, σ = [some (.ref a), some (.int (stir (is.take i))), x, none]) ⟨rfl, none, rfl⟩ (fun i σ H2 _ h => by rw [h.1]; exact hS) ?_ ?_⟩
    · rintro i x σ H2 hi ⟨rfl, y, rfl⟩
      obtain ⟨z, hz, rfl⟩ := g hi
      refine ⟨_, rfl, _, 69069, rfl, rfl, .inr ⟨by decide, by decide⟩, .int z, rfl, z, 31, rfl, rfl, .inr ⟨by decide, by decide⟩, _, _, rfl, rfl, _, 5, rfl, rfl, .inl ⟨_, rfl, _, 2147483629, rfl, rfl, (show (2147483629 : Int) ≠ 0 by decide), rfl, some (.int z), ?_⟩⟩
      have e1 : is.take (i + 1) = is.take i ++ [z] := by rw [List.take_add_one, hz]; rfl
      unfold stir
      rw [e1, List.foldl_append]
      rfl
    · rintro σ H2 ⟨rfl, y, rfl⟩
      have e1 : is.take (is.map V.int).length = is := by rw [List.length_map, List.take_length]
      rw [e1]
      -- the cells
      refine ⟨.ref a, rfl, a, rfl, ⟨_, hS⟩, fun D hD => ?_⟩
      have keep : ∀ (o : HO) b u, H2 b = some u → (upd H2 D o) b = some u := fun o b u h => by rw [upd_ne (ne_of_none h hD)]; exact h
      have seq : ∀ o : HO, SqL K (upd H2 D o) a (is.map V.int) := fun o => (show L2.Same H2 (upd H2 D o) from keep o).seq hS
      refine lc_list (K := K) (a := a) (xs := is.map V.int) (fun i H3 => H3 = upd H2 D (.lst ((is.take i).map fun c => V.int (if c < 0 then -c else c)))) rfl (fun i H3 _ h => by rw [h]; exact seq _) ?_ ?_
      · rintro i x H3 hi rfl
        obtain ⟨z, hz, rfl⟩ := g hi
        have hi2 : i < is.length := (List.getElem?_eq_some_iff.mp hz).1
        refine ⟨rfl, ?_⟩
        simp only [L2.tYes, if_true]
        refine ⟨.int z, rfl, z, rfl, _, upd_same, ?_, ?_⟩
        · have h1 : sizeLine = line := rfl
          rw [h1]
          simp only [List.length_map, List.length_take, line]
          omega
        · rw [List.take_add_one, hz, List.map_append]
          exact L2.upd_upd
      · rintro H3 rfl
        rw [e1]
        refine fun p hp => ?_
        have hpD : p ≠ D := fun z => by rw [z, upd_same] at hp; cases hp
        have hp2 : H2 p = none := by rw [upd_ne hpD] at hp; exact hp
        refine ⟨.ref D, rfl, D, _, rfl, .inl (.inl (by rw [upd_ne (Ne.symm hpD)]; exact upd_same)), fun r hr => ?_⟩
        have hrp : r ≠ p := fun z => by rw [z, upd_same] at hr; cases hr
        have hrD : r ≠ D := fun z => by rw [z, upd_ne (Ne.symm hpD), upd_same] at hr; cases hr
        have hr2 : H2 r = none := by rw [upd_ne hrp, upd_ne hrD] at hr; exact hr
        refine ⟨.int (stir is), rfl, ?_, srcKeys r 1 (stir is) 0, rfl, (show (4 : Nat) ≤ 15 by decide), ?_⟩
        · rw [upd_ne (Ne.symm hrp)]; exact upd_same
        · rw [merge_src]
          refine q _ p r (fun b o h => ?_) hp2 hr2 (Ne.symm hrp) upd_same ?_
          · rw [upd_ne (ne_of_none h hp2), upd_ne (ne_of_none h hr2), upd_ne (ne_of_none h hp2), upd_ne (ne_of_none h hD)]; exact h
          · rw [upd_ne hrp, upd_same, List.map_map]
            rfl
end

end Lw

/-! ## LwB1 -/
set_option Elab.async false
set_option linter.all false
set_option autoImplicit false
set_option maxRecDepth 100000
set_option maxHeartbeats 4000000
set_option exponentiation.threshold 100000
namespace Lw
open PySem PySem.Spec Cr
theorem orc_fn {i : Nat} {fn : Cr.Fn} (d : Nat) (h : G.pg i = some fn) (args : List PV) (objs : List PO) : G.orc (d + 1) i args objs = runFn ⟨G.refs, G.orc d⟩ fn args objs := by
  show (match G.pg i with
    | some fn => runFn ⟨G.refs, Cr.orc pickO G.pg G.refs d⟩ fn args objs
    | none => pickO i args objs) = _
  rw [h]
  rfl
theorem pg0 : G.pg 0 = some ⟨1, 1, b0⟩ := rfl
theorem pg1 : G.pg 1 = some ⟨2, 2, b1⟩ := rfl
theorem pg2 : G.pg 2 = some ⟨1, 1, b2⟩ := rfl
theorem pg3 : G.pg 3 = some ⟨2, 3, b3⟩ := rfl
theorem pg4 : G.pg 4 = some ⟨2, 2, b4⟩ := rfl
theorem pg5 : G.pg 5 = some ⟨2, 2, b5⟩ := rfl
theorem pg6 : G.pg 6 = some ⟨2, 2, b6⟩ := rfl
theorem pg7 : G.pg 7 = some ⟨2, 2, b7⟩ := rfl
theorem pg8 : G.pg 8 = some ⟨2, 3, b8⟩ := rfl
theorem pg9 : G.pg 9 = some ⟨1, 3, b9⟩ := rfl
theorem pg10 : G.pg 10 = some ⟨1, 3, b10⟩ := rfl
theorem pg11 : G.pg 11 = some ⟨3, 3, b11⟩ := rfl
theorem pg12 : G.pg 12 = some ⟨3, 3, b12⟩ := rfl
theorem pg13 : G.pg 13 = some ⟨3, 3, b13⟩ := rfl
theorem pg14 : G.pg 14 = some ⟨3, 3, b14⟩ := rfl
theorem pg15 : G.pg 15 = some ⟨3, 3, b15⟩ := rfl
theorem pg16 : G.pg 16 = some ⟨2, 4, b16⟩ := rfl
theorem pg17 : G.pg 17 = some ⟨1, 1, b17⟩ := rfl
theorem pg18 : G.pg 18 = some ⟨2, 2, b18⟩ := rfl
theorem pg19 : G.pg 19 = some ⟨2, 2, b19⟩ := rfl
theorem pg20 : G.pg 20 = some ⟨4, 11, b20⟩ := rfl
theorem pg21 : G.pg 21 = some ⟨4, 4, b21⟩ := rfl
theorem pg22 : G.pg 22 = some ⟨4, 5, b22⟩ := rfl
theorem pg23 : G.pg 23 = some ⟨3, 8, b23⟩ := rfl
theorem pg24 : G.pg 24 = some ⟨3, 10, b24⟩ := rfl
theorem pg25 : G.pg 25 = some ⟨3, 7, b25⟩ := rfl
theorem pg26 : G.pg 26 = some ⟨2, 2, b26⟩ := rfl
theorem pg27 : G.pg 27 = some ⟨2, 3, b27⟩ := rfl
theorem pg28 : G.pg 28 = some ⟨2, 2, b28⟩ := rfl
theorem pg29 : G.pg 29 = some ⟨2, 2, b29⟩ := rfl
theorem pg30 : G.pg 30 = some ⟨2, 2, b30⟩ := rfl
theorem pg31 : G.pg 31 = some ⟨2, 2, b31⟩ := rfl
theorem pg32 : G.pg 32 = some ⟨2, 2, b32⟩ := rfl
theorem pg33 : G.pg 33 = some ⟨1, 3, b33⟩ := rfl
theorem pg34 : G.pg 34 = some ⟨1, 3, b34⟩ := rfl
theorem pg35 : G.pg 35 = some ⟨1, 5, b35⟩ := rfl
theorem pg36 : G.pg 36 = some ⟨3, 7, b36⟩ := rfl
theorem pg37 : G.pg 37 = some ⟨3, 5, b37⟩ := rfl
theorem pg38 : G.pg 38 = some ⟨4, 8, b38⟩ := rfl
theorem pg39 : G.pg 39 = some ⟨3, 9, b39⟩ := rfl
theorem pg40 : G.pg 40 = some ⟨2, 9, b40⟩ := rfl
theorem pg41 : G.pg 41 = some ⟨2, 5, b41⟩ := rfl
theorem pg42 : G.pg 42 = some ⟨2, 3, b42⟩ := rfl
theorem pg43 : G.pg 43 = some ⟨2, 2, b43⟩ := rfl
theorem pg44 : G.pg 44 = some ⟨1, 21, b44⟩ := rfl
theorem rf0 : G.refs 0 = none := rfl
theorem rf1 : G.refs 1 = none := rfl
theorem rf2 : G.refs 2 = none := rfl
theorem rf3 : G.refs 3 = none := rfl
theorem rf4 : G.refs 4 = none := rfl
theorem rf5 : G.refs 5 = none := rfl
theorem rf6 : G.refs 6 = none := rfl
theorem rf7 : G.refs 7 = none := rfl
theorem rf8 : G.refs 8 = none := rfl
theorem rf9 : G.refs 9 = none := rfl
theorem rf10 : G.refs 10 = none := rfl
theorem rf11 : G.refs 11 = none := rfl
theorem rf12 : G.refs 12 = none := rfl
theorem rf13 : G.refs 13 = none := rfl
theorem rf14 : G.refs 14 = none := rfl
theorem rf15 : G.refs 15 = none := rfl
theorem rf16 : G.refs 16 = none := rfl
theorem rf17 : G.refs 17 = none := rfl
theorem rf18 : G.refs 18 = none := rfl
theorem rf19 : G.refs 19 = none := rfl
theorem rf20 : G.refs 20 = none := rfl
theorem rf21 : G.refs 21 = none := rfl
theorem rf22 : G.refs 22 = none := rfl
theorem rf23 : G.refs 23 = none := rfl
theorem rf24 : G.refs 24 = none := rfl
theorem rf25 : G.refs 25 = none := rfl
theorem rf26 : G.refs 26 = none := rfl
theorem rf27 : G.refs 27 = none := rfl
theorem rf28 : G.refs 28 = none := rfl
theorem rf29 : G.refs 29 = none := rfl
theorem rf30 : G.refs 30 = none := rfl
theorem rf31 : G.refs 31 = none := rfl
theorem rf32 : G.refs 32 = none := rfl
theorem rf33 : G.refs 33 = none := rfl
theorem rf34 : G.refs 34 = none := rfl
theorem rf35 : G.refs 35 = none := rfl
theorem rf36 : G.refs 36 = none := rfl
theorem rf37 : G.refs 37 = none := rfl
theorem rf38 : G.refs 38 = none := rfl
theorem rf39 : G.refs 39 = none := rfl
theorem rf40 : G.refs 40 = some 0 := rfl
theorem rf41 : G.refs 41 = some 0 := rfl
theorem rf42 : G.refs 42 = some 0 := rfl
theorem rf43 : G.refs 43 = some 0 := rfl
theorem rf44 : G.refs 44 = none := rfl
theorem rf45 : G.refs 45 = some 0 := rfl
theorem pick_fn (d : Nat) (args : List PV) (objs : List PO) : G.orc (d + 1) 45 args objs = pickO 45 args objs := rfl
--BODY
/-! ### fractions -/
theorem run_common (d : Nat) (a b : Int) : G.orc (d + 1) 1 [.d (.int a), .d (.int b)] [] = some (.int (a.gcd b : Nat), false, []) := by
  rw [orc_fn d pg1]
  have h := gcd_loop (P := ⟨G.refs, G.orc d⟩) (n0 := 0) (S := []) ((b.natAbs : Int).natAbs + 1) (a.natAbs : Int) (b.natAbs : Int) (by omega) (by omega) (by omega)
  have e1 : (if a < 0 then -a else a) = (a.natAbs : Int) := by split <;> omega
  have e2 : (if b < 0 then -b else b) = (b.natAbs : Int) := by split <;> omega
  have e3 : ((a.natAbs : Int).gcd (b.natAbs : Int)) = a.gcd b := rfl
  simp [b1, runFn, sxs_cons, sxs_nil, sx_asg, sx_asgT, sx_alloc, sx_par, sx_if, sx_retV, ret_tup, evn_tup, ret_lst, evn_lst, ret_bin, evn_bin, ret_neg, evn_neg, ret_not, evn_not, ret_cmp, evn_cmp, ret_chain, evn_chain, ret_and, evn_and, ret_or, evn_or, ret_ite, evn_ite, ret_ix, evn_ix, ret_sl, evn_sl, ret_bf, evn_bf, ret_met, evn_met, ret_comp, evn_comp, ret_cst, evn_cst, ret_call, sx_expr, sx_aug, sx_brk, sx_cnt, ev_var, ev_cst, ev_tup, ev_lst, ev_bin, ev_neg, ev_not, ev_cmp, ev_chain, ev_and, ev_or, ev_ite, ev_ix, ev_sl, ev_back, ev_call, ev_bf, ev_met, evn_call, evns, evs, evp, evt, own, setAll, callC, derefs, isRef, op1, op2, dt, vd, vb, Cr.part, intD, deref, items_list, items_tuple, Cr.ixN, ix_tup, ix_list, ix_fr0, ix_fr1, ix_sp0, ix_sp1, ix_gsp0, ix_gsp1, items_fr, items_sp, items_rg, cmp_eqF, cmp_neF, binD, tru_int, tru_bool, bd_nm, bd_tup, bds_nil, bds_cons, frz, frzV, isNew, bfD, metS, metD, isLst, cmp_eqI, cmp_neI, cmp_ltI, cmp_leI, cmp_gtI, cmp_geI, cmp_isNone, cmp_isNoneT, cmp_notNone, cmp_notNoneT, cmp_notB, cmp_isB, cmp_neB, cmp_eqB, bd_sp, bd_gsp, bd_pkd, items_gsp, e1, e2, h]
  rfl
theorem run_fraction (d : Nat) (u e : Int) (he : e ≠ 0) (h : sm ((e.gcd u : Nat) : Int)) : G.orc (d + 2) 3 [.d (.int u), .d (.int e)] [] = some (fr (Rat.divInt u e), false, []) := by
  rw [orc_fn (d + 1) pg3]
  obtain ⟨q1, q2⟩ := low_terms (u := u) he rfl
  have hg0 : e.gcd u ≠ 0 := fun h => he (Int.gcd_eq_zero_iff.mp h).1
  have hs : sm (-((e.gcd u : Nat) : Int)) := by unfold sm at h ⊢; simpa using h
  have hc := Int.gcd_comm u e
  by_cases hp : e > 0
  · rw [if_pos hp] at q1 q2
    have hp' : 0 < e := hp
    simp [b3, runFn, sxs_cons, sxs_nil, sx_asg, sx_asgT, sx_alloc, sx_par, sx_if, sx_retV, ret_tup, evn_tup, ret_lst, evn_lst, ret_bin, evn_bin, ret_neg, evn_neg, ret_not, evn_not, ret_cmp, evn_cmp, ret_chain, evn_chain, ret_and, evn_and, ret_or, evn_or, ret_ite, evn_ite, ret_ix, evn_ix, ret_sl, evn_sl, ret_bf, evn_bf, ret_met, evn_met, ret_comp, evn_comp, ret_cst, evn_cst, ret_call, sx_expr, sx_aug, sx_brk, sx_cnt, ev_var, ev_cst, ev_tup, ev_lst, ev_bin, ev_neg, ev_not, ev_cmp, ev_chain, ev_and, ev_or, ev_ite, ev_ix, ev_sl, ev_back, ev_call, ev_bf, ev_met, evn_call, evns, evs, evp, evt, own, setAll, callC, derefs, isRef, op1, op2, dt, vd, vb, Cr.part, intD, deref, items_list, items_tuple, Cr.ixN, ix_tup, ix_list, ix_fr0, ix_fr1, ix_sp0, ix_sp1, ix_gsp0, ix_gsp1, items_fr, items_sp, items_rg, cmp_eqF, cmp_neF, binD, tru_int, tru_bool, bd_nm, bd_tup, bds_nil, bds_cons, frz, frzV, isNew, bfD, metS, metD, isLst, cmp_eqI, cmp_neI, cmp_ltI, cmp_leI, cmp_gtI, cmp_geI, cmp_isNone, cmp_isNoneT, cmp_notNone, cmp_notNoneT, cmp_notB, cmp_isB, cmp_neB, cmp_eqB, bd_sp, bd_gsp, bd_pkd, items_gsp, rf1, run_common, hp', hc, hg0, h, q1, q2, fr, line]
  · rw [if_neg hp] at q1 q2
    have hp' : ¬ 0 < e := hp
    simp [b3, runFn, sxs_cons, sxs_nil, sx_asg, sx_asgT, sx_alloc, sx_par, sx_if, sx_retV, ret_tup, evn_tup, ret_lst, evn_lst, ret_bin, evn_bin, ret_neg, evn_neg, ret_not, evn_not, ret_cmp, evn_cmp, ret_chain, evn_chain, ret_and, evn_and, ret_or, evn_or, ret_ite, evn_ite, ret_ix, evn_ix, ret_sl, evn_sl, ret_bf, evn_bf, ret_met, evn_met, ret_comp, evn_comp, ret_cst, evn_cst, ret_call, sx_expr, sx_aug, sx_brk, sx_cnt, ev_var, ev_cst, ev_tup, ev_lst, ev_bin, ev_neg, ev_not, ev_cmp, ev_chain, ev_and, ev_or, ev_ite, ev_ix, ev_sl, ev_back, ev_call, ev_bf, ev_met, evn_call, evns, evs, evp, evt, own, setAll, callC, derefs, isRef, op1, op2, dt, vd, vb, Cr.part, intD, deref, items_list, items_tuple, Cr.ixN, ix_tup, ix_list, ix_fr0, ix_fr1, ix_sp0, ix_sp1, ix_gsp0, ix_gsp1, items_fr, items_sp, items_rg, cmp_eqF, cmp_neF, binD, tru_int, tru_bool, bd_nm, bd_tup, bds_nil, bds_cons, frz, frzV, isNew, bfD, metS, metD, isLst, cmp_eqI, cmp_neI, cmp_ltI, cmp_leI, cmp_gtI, cmp_geI, cmp_isNone, cmp_isNoneT, cmp_notNone, cmp_notNoneT, cmp_notB, cmp_isB, cmp_neB, cmp_eqB, bd_sp, bd_gsp, bd_pkd, items_gsp, rf1, run_common, hp', hc, hg0, hs, q1, q2, fr, line]
theorem run_added (d : Nat) {n m : Nat} {x y : Rat} (hx : sz n x) (hy : sz m y) (h : n + m + 1 ≤ 8192) : G.orc (d + 3) 4 [.d (fr x), .d (fr y)] [] = some (fr (x + y), false, []) := by
  rw [orc_fn (d + 2) pg4]
  have he : (x.den : Int) * y.den ≠ 0 := Int.mul_ne_zero (den_ne x) (den_ne y)
  have f := run_fraction d (x.num * y.den + y.num * x.den) ((x.den : Int) * y.den) he (sm_gcd he (sm_prod hx.nd hy.nd (by omega)))
  rw [add_div] at f
  have h1 := hx.num (by omega)
  have h2 := hy.num (by omega)
  have h3 := hx.den (by omega)
  have h4 := hy.den (by omega)
  simp [b4, runFn, sxs_cons, sxs_nil, sx_asg, sx_asgT, sx_alloc, sx_par, sx_if, sx_retV, ret_tup, evn_tup, ret_lst, evn_lst, ret_bin, evn_bin, ret_neg, evn_neg, ret_not, evn_not, ret_cmp, evn_cmp, ret_chain, evn_chain, ret_and, evn_and, ret_or, evn_or, ret_ite, evn_ite, ret_ix, evn_ix, ret_sl, evn_sl, ret_bf, evn_bf, ret_met, evn_met, ret_comp, evn_comp, ret_cst, evn_cst, ret_call, sx_expr, sx_aug, sx_brk, sx_cnt, ev_var, ev_cst, ev_tup, ev_lst, ev_bin, ev_neg, ev_not, ev_cmp, ev_chain, ev_and, ev_or, ev_ite, ev_ix, ev_sl, ev_back, ev_call, ev_bf, ev_met, evn_call, evns, evs, evp, evt, own, setAll, callC, derefs, isRef, op1, op2, dt, vd, vb, Cr.part, intD, deref, items_list, items_tuple, Cr.ixN, ix_tup, ix_list, ix_fr0, ix_fr1, ix_sp0, ix_sp1, ix_gsp0, ix_gsp1, items_fr, items_sp, items_rg, cmp_eqF, cmp_neF, binD, tru_int, tru_bool, bd_nm, bd_tup, bds_nil, bds_cons, frz, frzV, isNew, bfD, metS, metD, isLst, cmp_eqI, cmp_neI, cmp_ltI, cmp_leI, cmp_gtI, cmp_geI, cmp_isNone, cmp_isNoneT, cmp_notNone, cmp_notNoneT, cmp_notB, cmp_isB, cmp_neB, cmp_eqB, bd_sp, bd_gsp, bd_pkd, items_gsp, rf3, h1, h2, h3, h4, f]
theorem run_lessened (d : Nat) {n m : Nat} {x y : Rat} (hx : sz n x) (hy : sz m y) (h : n + m + 1 ≤ 8192) : G.orc (d + 3) 5 [.d (fr x), .d (fr y)] [] = some (fr (x - y), false, []) := by
  rw [orc_fn (d + 2) pg5]
  have he : (x.den : Int) * y.den ≠ 0 := Int.mul_ne_zero (den_ne x) (den_ne y)
  have f := run_fraction d (x.num * y.den - y.num * x.den) ((x.den : Int) * y.den) he (sm_gcd he (sm_prod hx.nd hy.nd (by omega)))
  rw [sub_div] at f
  have h1 := hx.num (by omega)
  have h2 := hy.num (by omega)
  have h3 := hx.den (by omega)
  have h4 := hy.den (by omega)
  simp [b5, runFn, sxs_cons, sxs_nil, sx_asg, sx_asgT, sx_alloc, sx_par, sx_if, sx_retV, ret_tup, evn_tup, ret_lst, evn_lst, ret_bin, evn_bin, ret_neg, evn_neg, ret_not, evn_not, ret_cmp, evn_cmp, ret_chain, evn_chain, ret_and, evn_and, ret_or, evn_or, ret_ite, evn_ite, ret_ix, evn_ix, ret_sl, evn_sl, ret_bf, evn_bf, ret_met, evn_met, ret_comp, evn_comp, ret_cst, evn_cst, ret_call, sx_expr, sx_aug, sx_brk, sx_cnt, ev_var, ev_cst, ev_tup, ev_lst, ev_bin, ev_neg, ev_not, ev_cmp, ev_chain, ev_and, ev_or, ev_ite, ev_ix, ev_sl, ev_back, ev_call, ev_bf, ev_met, evn_call, evns, evs, evp, evt, own, setAll, callC, derefs, isRef, op1, op2, dt, vd, vb, Cr.part, intD, deref, items_list, items_tuple, Cr.ixN, ix_tup, ix_list, ix_fr0, ix_fr1, ix_sp0, ix_sp1, ix_gsp0, ix_gsp1, items_fr, items_sp, items_rg, cmp_eqF, cmp_neF, binD, tru_int, tru_bool, bd_nm, bd_tup, bds_nil, bds_cons, frz, frzV, isNew, bfD, metS, metD, isLst, cmp_eqI, cmp_neI, cmp_ltI, cmp_leI, cmp_gtI, cmp_geI, cmp_isNone, cmp_isNoneT, cmp_notNone, cmp_notNoneT, cmp_notB, cmp_isB, cmp_neB, cmp_eqB, bd_sp, bd_gsp, bd_pkd, items_gsp, rf3, h1, h2, h3, h4, f]
theorem run_multiplied (d : Nat) {n m : Nat} {x y : Rat} (hx : sz n x) (hy : sz m y) (h : n + m ≤ 8192) : G.orc (d + 3) 6 [.d (fr x), .d (fr y)] [] = some (fr (x * y), false, []) := by
  rw [orc_fn (d + 2) pg6]
  have he : (x.den : Int) * y.den ≠ 0 := Int.mul_ne_zero (den_ne x) (den_ne y)
  have f := run_fraction d (x.num * y.num) ((x.den : Int) * y.den) he (sm_gcd he (sm_prod hx.nd hy.nd (by omega)))
  rw [mul_div] at f
  have h1 := hx.num (by omega)
  have h2 := hy.num (by omega)
  have h3 := hx.den (by omega)
  have h4 := hy.den (by omega)
  simp [b6, runFn, sxs_cons, sxs_nil, sx_asg, sx_asgT, sx_alloc, sx_par, sx_if, sx_retV, ret_tup, evn_tup, ret_lst, evn_lst, ret_bin, evn_bin, ret_neg, evn_neg, ret_not, evn_not, ret_cmp, evn_cmp, ret_chain, evn_chain, ret_and, evn_and, ret_or, evn_or, ret_ite, evn_ite, ret_ix, evn_ix, ret_sl, evn_sl, ret_bf, evn_bf, ret_met, evn_met, ret_comp, evn_comp, ret_cst, evn_cst, ret_call, sx_expr, sx_aug, sx_brk, sx_cnt, ev_var, ev_cst, ev_tup, ev_lst, ev_bin, ev_neg, ev_not, ev_cmp, ev_chain, ev_and, ev_or, ev_ite, ev_ix, ev_sl, ev_back, ev_call, ev_bf, ev_met, evn_call, evns, evs, evp, evt, own, setAll, callC, derefs, isRef, op1, op2, dt, vd, vb, Cr.part, intD, deref, items_list, items_tuple, Cr.ixN, ix_tup, ix_list, ix_fr0, ix_fr1, ix_sp0, ix_sp1, ix_gsp0, ix_gsp1, items_fr, items_sp, items_rg, cmp_eqF, cmp_neF, binD, tru_int, tru_bool, bd_nm, bd_tup, bds_nil, bds_cons, frz, frzV, isNew, bfD, metS, metD, isLst, cmp_eqI, cmp_neI, cmp_ltI, cmp_leI, cmp_gtI, cmp_geI, cmp_isNone, cmp_isNoneT, cmp_notNone, cmp_notNoneT, cmp_notB, cmp_isB, cmp_neB, cmp_eqB, bd_sp, bd_gsp, bd_pkd, items_gsp, rf3, h1, h2, h3, h4, f]
theorem run_divided (d : Nat) {n m : Nat} {x y : Rat} (hx : sz n x) (hy : sz m y) (h0 : y ≠ 0) (h : n + m ≤ 8192) : G.orc (d + 3) 7 [.d (fr x), .d (fr y)] [] = some (fr (x / y), false, []) := by
  rw [orc_fn (d + 2) pg7]
  have he : (x.den : Int) * y.num ≠ 0 := Int.mul_ne_zero (den_ne x) (fun h => h0 (Rat.num_eq_zero.mp h))
  have f := run_fraction d (x.num * y.den) ((x.den : Int) * y.num) he (sm_gcd he (sm_prod hx.nd hy.1 (by omega)))
  rw [quo_div] at f
  have h1 := hx.num (by omega)
  have h2 := hy.num (by omega)
  have h3 := hx.den (by omega)
  have h4 := hy.den (by omega)
  simp [b7, runFn, sxs_cons, sxs_nil, sx_asg, sx_asgT, sx_alloc, sx_par, sx_if, sx_retV, ret_tup, evn_tup, ret_lst, evn_lst, ret_bin, evn_bin, ret_neg, evn_neg, ret_not, evn_not, ret_cmp, evn_cmp, ret_chain, evn_chain, ret_and, evn_and, ret_or, evn_or, ret_ite, evn_ite, ret_ix, evn_ix, ret_sl, evn_sl, ret_bf, evn_bf, ret_met, evn_met, ret_comp, evn_comp, ret_cst, evn_cst, ret_call, sx_expr, sx_aug, sx_brk, sx_cnt, ev_var, ev_cst, ev_tup, ev_lst, ev_bin, ev_neg, ev_not, ev_cmp, ev_chain, ev_and, ev_or, ev_ite, ev_ix, ev_sl, ev_back, ev_call, ev_bf, ev_met, evn_call, evns, evs, evp, evt, own, setAll, callC, derefs, isRef, op1, op2, dt, vd, vb, Cr.part, intD, deref, items_list, items_tuple, Cr.ixN, ix_tup, ix_list, ix_fr0, ix_fr1, ix_sp0, ix_sp1, ix_gsp0, ix_gsp1, items_fr, items_sp, items_rg, cmp_eqF, cmp_neF, binD, tru_int, tru_bool, bd_nm, bd_tup, bds_nil, bds_cons, frz, frzV, isNew, bfD, metS, metD, isLst, cmp_eqI, cmp_neI, cmp_ltI, cmp_leI, cmp_gtI, cmp_geI, cmp_isNone, cmp_isNoneT, cmp_notNone, cmp_notNoneT, cmp_notB, cmp_isB, cmp_neB, cmp_eqB, bd_sp, bd_gsp, bd_pkd, items_gsp, rf3, h1, h2, h3, h4, f]
theorem run_compared (d : Nat) {n m : Nat} {x y : Rat} (hx : sz n x) (hy : sz m y) (h : n ≤ 8192) (h' : m ≤ 8192) : G.orc (d + 1) 8 [.d (fr x), .d (fr y)] [] = some (.int (if x = y then 0 else if y < x then 1 else -1), false, []) := by
  rw [orc_fn d pg8]
  have h1 := hx.num h
  have h2 := hy.num h'
  have h3 := hx.den h
  have h4 := hy.den h'
  have e0 := cmp_eq0 x y
  have e1 : (0 < x.num * y.den - y.num * x.den) ↔ y < x := by rw [← cmp_num y x]; omega
  by_cases c1 : x = y
  · have c1' := e0.mpr c1
    simp [b8, runFn, sxs_cons, sxs_nil, sx_asg, sx_asgT, sx_alloc, sx_par, sx_if, sx_retV, ret_tup, evn_tup, ret_lst, evn_lst, ret_bin, evn_bin, ret_neg, evn_neg, ret_not, evn_not, ret_cmp, evn_cmp, ret_chain, evn_chain, ret_and, evn_and, ret_or, evn_or, ret_ite, evn_ite, ret_ix, evn_ix, ret_sl, evn_sl, ret_bf, evn_bf, ret_met, evn_met, ret_comp, evn_comp, ret_cst, evn_cst, ret_call, sx_expr, sx_aug, sx_brk, sx_cnt, ev_var, ev_cst, ev_tup, ev_lst, ev_bin, ev_neg, ev_not, ev_cmp, ev_chain, ev_and, ev_or, ev_ite, ev_ix, ev_sl, ev_back, ev_call, ev_bf, ev_met, evn_call, evns, evs, evp, evt, own, setAll, callC, derefs, isRef, op1, op2, dt, vd, vb, Cr.part, intD, deref, items_list, items_tuple, Cr.ixN, ix_tup, ix_list, ix_fr0, ix_fr1, ix_sp0, ix_sp1, ix_gsp0, ix_gsp1, items_fr, items_sp, items_rg, cmp_eqF, cmp_neF, binD, tru_int, tru_bool, bd_nm, bd_tup, bds_nil, bds_cons, frz, frzV, isNew, bfD, metS, metD, isLst, cmp_eqI, cmp_neI, cmp_ltI, cmp_leI, cmp_gtI, cmp_geI, cmp_isNone, cmp_isNoneT, cmp_notNone, cmp_notNoneT, cmp_notB, cmp_isB, cmp_neB, cmp_eqB, bd_sp, bd_gsp, bd_pkd, items_gsp, h1, h2, h3, h4, c1', c1]
  · have c1' : ¬ (x.num * y.den - y.num * x.den = 0) := fun h => c1 (e0.mp h)
    by_cases c2 : y < x
    · have c2' := (cmp_num y x).mpr c2
      simp [b8, runFn, sxs_cons, sxs_nil, sx_asg, sx_asgT, sx_alloc, sx_par, sx_if, sx_retV, ret_tup, evn_tup, ret_lst, evn_lst, ret_bin, evn_bin, ret_neg, evn_neg, ret_not, evn_not, ret_cmp, evn_cmp, ret_chain, evn_chain, ret_and, evn_and, ret_or, evn_or, ret_ite, evn_ite, ret_ix, evn_ix, ret_sl, evn_sl, ret_bf, evn_bf, ret_met, evn_met, ret_comp, evn_comp, ret_cst, evn_cst, ret_call, sx_expr, sx_aug, sx_brk, sx_cnt, ev_var, ev_cst, ev_tup, ev_lst, ev_bin, ev_neg, ev_not, ev_cmp, ev_chain, ev_and, ev_or, ev_ite, ev_ix, ev_sl, ev_back, ev_call, ev_bf, ev_met, evn_call, evns, evs, evp, evt, own, setAll, callC, derefs, isRef, op1, op2, dt, vd, vb, Cr.part, intD, deref, items_list, items_tuple, Cr.ixN, ix_tup, ix_list, ix_fr0, ix_fr1, ix_sp0, ix_sp1, ix_gsp0, ix_gsp1, items_fr, items_sp, items_rg, cmp_eqF, cmp_neF, binD, tru_int, tru_bool, bd_nm, bd_tup, bds_nil, bds_cons, frz, frzV, isNew, bfD, metS, metD, isLst, cmp_eqI, cmp_neI, cmp_ltI, cmp_leI, cmp_gtI, cmp_geI, cmp_isNone, cmp_isNoneT, cmp_notNone, cmp_notNoneT, cmp_notB, cmp_isB, cmp_neB, cmp_eqB, bd_sp, bd_gsp, bd_pkd, items_gsp, h1, h2, h3, h4, c1', c1, c2, c2']
    · have c2' : ¬ (y.num * x.den < x.num * y.den) := fun h => c2 ((cmp_num y x).mp h)
      simp [b8, runFn, sxs_cons, sxs_nil, sx_asg, sx_asgT, sx_alloc, sx_par, sx_if, sx_retV, ret_tup, evn_tup, ret_lst, evn_lst, ret_bin, evn_bin, ret_neg, evn_neg, ret_not, evn_not, ret_cmp, evn_cmp, ret_chain, evn_chain, ret_and, evn_and, ret_or, evn_or, ret_ite, evn_ite, ret_ix, evn_ix, ret_sl, evn_sl, ret_bf, evn_bf, ret_met, evn_met, ret_comp, evn_comp, ret_cst, evn_cst, ret_call, sx_expr, sx_aug, sx_brk, sx_cnt, ev_var, ev_cst, ev_tup, ev_lst, ev_bin, ev_neg, ev_not, ev_cmp, ev_chain, ev_and, ev_or, ev_ite, ev_ix, ev_sl, ev_back, ev_call, ev_bf, ev_met, evn_call, evns, evs, evp, evt, own, setAll, callC, derefs, isRef, op1, op2, dt, vd, vb, Cr.part, intD, deref, items_list, items_tuple, Cr.ixN, ix_tup, ix_list, ix_fr0, ix_fr1, ix_sp0, ix_sp1, ix_gsp0, ix_gsp1, items_fr, items_sp, items_rg, cmp_eqF, cmp_neF, binD, tru_int, tru_bool, bd_nm, bd_tup, bds_nil, bds_cons, frz, frzV, isNew, bfD, metS, metD, isLst, cmp_eqI, cmp_neI, cmp_ltI, cmp_leI, cmp_gtI, cmp_geI, cmp_isNone, cmp_isNoneT, cmp_notNone, cmp_notNoneT, cmp_notB, cmp_isB, cmp_neB, cmp_eqB, bd_sp, bd_gsp, bd_pkd, items_gsp, h1, h2, h3, h4, c1', c1, c2, c2']
theorem run_between (d : Nat) {n m k : Nat} {x y t : Rat} (hx : sz n x) (hy : sz m y) (ht : sz k t) (h : n + (k + (m + n + 1)) + 1 ≤ 8192) : G.orc (d + 4) 11 [.d (fr x), .d (fr y), .d (fr t)] [] = some (fr (x + t * (y - x)), false, []) := by
  rw [orc_fn (d + 3) pg11]
  have f1 := run_lessened d hy hx (by omega)
  have f2 := run_multiplied d ht (sz_sub hy hx) (by omega)
  have f3 := run_added d hx (sz_mul ht (sz_sub hy hx)) (by omega)
  simp [b11, runFn, sxs_cons, sxs_nil, sx_asg, sx_asgT, sx_alloc, sx_par, sx_if, sx_retV, ret_tup, evn_tup, ret_lst, evn_lst, ret_bin, evn_bin, ret_neg, evn_neg, ret_not, evn_not, ret_cmp, evn_cmp, ret_chain, evn_chain, ret_and, evn_and, ret_or, evn_or, ret_ite, evn_ite, ret_ix, evn_ix, ret_sl, evn_sl, ret_bf, evn_bf, ret_met, evn_met, ret_comp, evn_comp, ret_cst, evn_cst, ret_call, sx_expr, sx_aug, sx_brk, sx_cnt, ev_var, ev_cst, ev_tup, ev_lst, ev_bin, ev_neg, ev_not, ev_cmp, ev_chain, ev_and, ev_or, ev_ite, ev_ix, ev_sl, ev_back, ev_call, ev_bf, ev_met, evn_call, evns, evs, evp, evt, own, setAll, callC, derefs, isRef, op1, op2, dt, vd, vb, Cr.part, intD, deref, items_list, items_tuple, Cr.ixN, ix_tup, ix_list, ix_fr0, ix_fr1, ix_sp0, ix_sp1, ix_gsp0, ix_gsp1, items_fr, items_sp, items_rg, cmp_eqF, cmp_neF, binD, tru_int, tru_bool, bd_nm, bd_tup, bds_nil, bds_cons, frz, frzV, isNew, bfD, metS, metD, isLst, cmp_eqI, cmp_neI, cmp_ltI, cmp_leI, cmp_gtI, cmp_geI, cmp_isNone, cmp_isNoneT, cmp_notNone, cmp_notNoneT, cmp_notB, cmp_isB, cmp_neB, cmp_eqB, bd_sp, bd_gsp, bd_pkd, items_gsp, rf0, rf1, rf2, rf3, rf4, rf5, rf6, rf7, rf8, rf9, rf10, rf11, rf12, rf13, rf14, rf15, rf16, rf17, rf18, rf19, rf20, rf21, rf22, rf23, rf24, rf25, rf26, rf27, rf28, rf29, rf30, rf31, rf32, rf33, rf34, rf35, rf36, rf37, rf38, rf39, rf40, rf41, rf42, rf43, rf44, rf45, f1, f2, f3]
/-! the laws' own -/
theorem run_law_common (d : Nat) (a b : Int) : G.orc (d + 1) 26 [.d (.int a), .d (.int b)] [] = some (.int (a.gcd b : Nat), false, []) := by
  rw [orc_fn d pg26]
  have h := gcd_loop2 (P := ⟨G.refs, G.orc d⟩) (n0 := 0) (S := []) ((b.natAbs : Int).natAbs + 1) (a.natAbs : Int) (b.natAbs : Int) (by omega) (by omega) (by omega)
  have e1 : (if a < 0 then -a else a) = (a.natAbs : Int) := by split <;> omega
  have e2 : (if b < 0 then -b else b) = (b.natAbs : Int) := by split <;> omega
  simp [b26, runFn, sxs_cons, sxs_nil, sx_asg, sx_asgT, sx_alloc, sx_par, sx_if, sx_retV, ret_tup, evn_tup, ret_lst, evn_lst, ret_bin, evn_bin, ret_neg, evn_neg, ret_not, evn_not, ret_cmp, evn_cmp, ret_chain, evn_chain, ret_and, evn_and, ret_or, evn_or, ret_ite, evn_ite, ret_ix, evn_ix, ret_sl, evn_sl, ret_bf, evn_bf, ret_met, evn_met, ret_comp, evn_comp, ret_cst, evn_cst, ret_call, sx_expr, sx_aug, sx_brk, sx_cnt, ev_var, ev_cst, ev_tup, ev_lst, ev_bin, ev_neg, ev_not, ev_cmp, ev_chain, ev_and, ev_or, ev_ite, ev_ix, ev_sl, ev_back, ev_call, ev_bf, ev_met, evn_call, evns, evs, evp, evt, own, setAll, callC, derefs, isRef, op1, op2, dt, vd, vb, Cr.part, intD, deref, items_list, items_tuple, Cr.ixN, ix_tup, ix_list, ix_fr0, ix_fr1, ix_sp0, ix_sp1, ix_gsp0, ix_gsp1, items_fr, items_sp, items_rg, cmp_eqF, cmp_neF, binD, tru_int, tru_bool, bd_nm, bd_tup, bds_nil, bds_cons, frz, frzV, isNew, bfD, metS, metD, isLst, cmp_eqI, cmp_neI, cmp_ltI, cmp_leI, cmp_gtI, cmp_geI, cmp_isNone, cmp_isNoneT, cmp_notNone, cmp_notNoneT, cmp_notB, cmp_isB, cmp_neB, cmp_eqB, bd_sp, bd_gsp, bd_pkd, items_gsp, e1, e2, h]
  rfl
theorem sm_one : sm 1 := by decide
theorem sm_neg1 : sm (-1) := by decide
theorem run_law_fraction (d : Nat) (u e : Int) (he : e ≠ 0) (h : sm ((e.gcd u : Nat) : Int)) : G.orc (d + 2) 27 [.d (.int u), .d (.int e)] [] = some (fr (Rat.divInt u e), false, []) := by
  rw [orc_fn (d + 1) pg27]
  obtain ⟨q1, q2⟩ := low_terms (u := u) he rfl
  have hg0 : e.gcd u ≠ 0 := fun h => he (Int.gcd_eq_zero_iff.mp h).1
  have hs : sm (-((e.gcd u : Nat) : Int)) := by unfold sm at h ⊢; simpa using h
  have hc := Int.gcd_comm u e
  by_cases hp : e > 0
  · rw [if_pos hp] at q1 q2
    have hp' : 0 < e := hp
    simp [b27, runFn, sxs_cons, sxs_nil, sx_asg, sx_asgT, sx_alloc, sx_par, sx_if, sx_retV, ret_tup, evn_tup, ret_lst, evn_lst, ret_bin, evn_bin, ret_neg, evn_neg, ret_not, evn_not, ret_cmp, evn_cmp, ret_chain, evn_chain, ret_and, evn_and, ret_or, evn_or, ret_ite, evn_ite, ret_ix, evn_ix, ret_sl, evn_sl, ret_bf, evn_bf, ret_met, evn_met, ret_comp, evn_comp, ret_cst, evn_cst, ret_call, sx_expr, sx_aug, sx_brk, sx_cnt, ev_var, ev_cst, ev_tup, ev_lst, ev_bin, ev_neg, ev_not, ev_cmp, ev_chain, ev_and, ev_or, ev_ite, ev_ix, ev_sl, ev_back, ev_call, ev_bf, ev_met, evn_call, evns, evs, evp, evt, own, setAll, callC, derefs, isRef, op1, op2, dt, vd, vb, Cr.part, intD, deref, items_list, items_tuple, Cr.ixN, ix_tup, ix_list, ix_fr0, ix_fr1, ix_sp0, ix_sp1, ix_gsp0, ix_gsp1, items_fr, items_sp, items_rg, cmp_eqF, cmp_neF, binD, tru_int, tru_bool, bd_nm, bd_tup, bds_nil, bds_cons, frz, frzV, isNew, bfD, metS, metD, isLst, cmp_eqI, cmp_neI, cmp_ltI, cmp_leI, cmp_gtI, cmp_geI, cmp_isNone, cmp_isNoneT, cmp_notNone, cmp_notNoneT, cmp_notB, cmp_isB, cmp_neB, cmp_eqB, bd_sp, bd_gsp, bd_pkd, items_gsp, rf26, run_law_common, hp', hc, hg0, h, q1, q2, fr, line, sm_one]
  · rw [if_neg hp] at q1 q2
    have hp' : ¬ 0 < e := hp
    simp [b27, runFn, sxs_cons, sxs_nil, sx_asg, sx_asgT, sx_alloc, sx_par, sx_if, sx_retV, ret_tup, evn_tup, ret_lst, evn_lst, ret_bin, evn_bin, ret_neg, evn_neg, ret_not, evn_not, ret_cmp, evn_cmp, ret_chain, evn_chain, ret_and, evn_and, ret_or, evn_or, ret_ite, evn_ite, ret_ix, evn_ix, ret_sl, evn_sl, ret_bf, evn_bf, ret_met, evn_met, ret_comp, evn_comp, ret_cst, evn_cst, ret_call, sx_expr, sx_aug, sx_brk, sx_cnt, ev_var, ev_cst, ev_tup, ev_lst, ev_bin, ev_neg, ev_not, ev_cmp, ev_chain, ev_and, ev_or, ev_ite, ev_ix, ev_sl, ev_back, ev_call, ev_bf, ev_met, evn_call, evns, evs, evp, evt, own, setAll, callC, derefs, isRef, op1, op2, dt, vd, vb, Cr.part, intD, deref, items_list, items_tuple, Cr.ixN, ix_tup, ix_list, ix_fr0, ix_fr1, ix_sp0, ix_sp1, ix_gsp0, ix_gsp1, items_fr, items_sp, items_rg, cmp_eqF, cmp_neF, binD, tru_int, tru_bool, bd_nm, bd_tup, bds_nil, bds_cons, frz, frzV, isNew, bfD, metS, metD, isLst, cmp_eqI, cmp_neI, cmp_ltI, cmp_leI, cmp_gtI, cmp_geI, cmp_isNone, cmp_isNoneT, cmp_notNone, cmp_notNoneT, cmp_notB, cmp_isB, cmp_neB, cmp_eqB, bd_sp, bd_gsp, bd_pkd, items_gsp, rf26, run_law_common, hp', hc, hg0, h, hs, q1, q2, fr, line, sm_neg1]
theorem run_law_sum (d : Nat) {n m : Nat} {x y : Rat} (hx : sz n x) (hy : sz m y) (h : n + m + 1 ≤ 8192) : G.orc (d + 3) 28 [.d (fr x), .d (fr y)] [] = some (fr (x + y), false, []) := by
  rw [orc_fn (d + 2) pg28]
  have he : (x.den : Int) * y.den ≠ 0 := Int.mul_ne_zero (den_ne x) (den_ne y)
  have f := run_law_fraction d (x.num * y.den + y.num * x.den) ((x.den : Int) * y.den) he (sm_gcd he (sm_prod hx.nd hy.nd (by omega)))
  rw [add_div] at f
  have h1 := hx.num (by omega)
  have h2 := hy.num (by omega)
  have h3 := hx.den (by omega)
  have h4 := hy.den (by omega)
  simp [b28, runFn, sxs_cons, sxs_nil, sx_asg, sx_asgT, sx_alloc, sx_par, sx_if, sx_retV, ret_tup, evn_tup, ret_lst, evn_lst, ret_bin, evn_bin, ret_neg, evn_neg, ret_not, evn_not, ret_cmp, evn_cmp, ret_chain, evn_chain, ret_and, evn_and, ret_or, evn_or, ret_ite, evn_ite, ret_ix, evn_ix, ret_sl, evn_sl, ret_bf, evn_bf, ret_met, evn_met, ret_comp, evn_comp, ret_cst, evn_cst, ret_call, sx_expr, sx_aug, sx_brk, sx_cnt, ev_var, ev_cst, ev_tup, ev_lst, ev_bin, ev_neg, ev_not, ev_cmp, ev_chain, ev_and, ev_or, ev_ite, ev_ix, ev_sl, ev_back, ev_call, ev_bf, ev_met, evn_call, evns, evs, evp, evt, own, setAll, callC, derefs, isRef, op1, op2, dt, vd, vb, Cr.part, intD, deref, items_list, items_tuple, Cr.ixN, ix_tup, ix_list, ix_fr0, ix_fr1, ix_sp0, ix_sp1, ix_gsp0, ix_gsp1, items_fr, items_sp, items_rg, cmp_eqF, cmp_neF, binD, tru_int, tru_bool, bd_nm, bd_tup, bds_nil, bds_cons, frz, frzV, isNew, bfD, metS, metD, isLst, cmp_eqI, cmp_neI, cmp_ltI, cmp_leI, cmp_gtI, cmp_geI, cmp_isNone, cmp_isNoneT, cmp_notNone, cmp_notNoneT, cmp_notB, cmp_isB, cmp_neB, cmp_eqB, bd_sp, bd_gsp, bd_pkd, items_gsp, rf27, h1, h2, h3, h4, f]
theorem run_law_times (d : Nat) {n m : Nat} {x y : Rat} (hx : sz n x) (hy : sz m y) (h : n + m ≤ 8192) : G.orc (d + 3) 29 [.d (fr x), .d (fr y)] [] = some (fr (x * y), false, []) := by
  rw [orc_fn (d + 2) pg29]
  have he : (x.den : Int) * y.den ≠ 0 := Int.mul_ne_zero (den_ne x) (den_ne y)
  have f := run_law_fraction d (x.num * y.num) ((x.den : Int) * y.den) he (sm_gcd he (sm_prod hx.nd hy.nd (by omega)))
  rw [mul_div] at f
  have h1 := hx.num (by omega)
  have h2 := hy.num (by omega)
  have h3 := hx.den (by omega)
  have h4 := hy.den (by omega)
  simp [b29, runFn, sxs_cons, sxs_nil, sx_asg, sx_asgT, sx_alloc, sx_par, sx_if, sx_retV, ret_tup, evn_tup, ret_lst, evn_lst, ret_bin, evn_bin, ret_neg, evn_neg, ret_not, evn_not, ret_cmp, evn_cmp, ret_chain, evn_chain, ret_and, evn_and, ret_or, evn_or, ret_ite, evn_ite, ret_ix, evn_ix, ret_sl, evn_sl, ret_bf, evn_bf, ret_met, evn_met, ret_comp, evn_comp, ret_cst, evn_cst, ret_call, sx_expr, sx_aug, sx_brk, sx_cnt, ev_var, ev_cst, ev_tup, ev_lst, ev_bin, ev_neg, ev_not, ev_cmp, ev_chain, ev_and, ev_or, ev_ite, ev_ix, ev_sl, ev_back, ev_call, ev_bf, ev_met, evn_call, evns, evs, evp, evt, own, setAll, callC, derefs, isRef, op1, op2, dt, vd, vb, Cr.part, intD, deref, items_list, items_tuple, Cr.ixN, ix_tup, ix_list, ix_fr0, ix_fr1, ix_sp0, ix_sp1, ix_gsp0, ix_gsp1, items_fr, items_sp, items_rg, cmp_eqF, cmp_neF, binD, tru_int, tru_bool, bd_nm, bd_tup, bds_nil, bds_cons, frz, frzV, isNew, bfD, metS, metD, isLst, cmp_eqI, cmp_neI, cmp_ltI, cmp_leI, cmp_gtI, cmp_geI, cmp_isNone, cmp_isNoneT, cmp_notNone, cmp_notNoneT, cmp_notB, cmp_isB, cmp_neB, cmp_eqB, bd_sp, bd_gsp, bd_pkd, items_gsp, rf27, h1, h2, h3, h4, f]
theorem run_law_over (d : Nat) {n m : Nat} {x y : Rat} (hx : sz n x) (hy : sz m y) (h0 : y ≠ 0) (h : n + m ≤ 8192) : G.orc (d + 3) 32 [.d (fr x), .d (fr y)] [] = some (fr (x / y), false, []) := by
  rw [orc_fn (d + 2) pg32]
  have he : (x.den : Int) * y.num ≠ 0 := Int.mul_ne_zero (den_ne x) (fun h => h0 (Rat.num_eq_zero.mp h))
  have f := run_law_fraction d (x.num * y.den) ((x.den : Int) * y.num) he (sm_gcd he (sm_prod hx.nd hy.1 (by omega)))
  rw [quo_div] at f
  have h1 := hx.num (by omega)
  have h2 := hy.num (by omega)
  have h3 := hx.den (by omega)
  have h4 := hy.den (by omega)
  simp [b32, runFn, sxs_cons, sxs_nil, sx_asg, sx_asgT, sx_alloc, sx_par, sx_if, sx_retV, ret_tup, evn_tup, ret_lst, evn_lst, ret_bin, evn_bin, ret_neg, evn_neg, ret_not, evn_not, ret_cmp, evn_cmp, ret_chain, evn_chain, ret_and, evn_and, ret_or, evn_or, ret_ite, evn_ite, ret_ix, evn_ix, ret_sl, evn_sl, ret_bf, evn_bf, ret_met, evn_met, ret_comp, evn_comp, ret_cst, evn_cst, ret_call, sx_expr, sx_aug, sx_brk, sx_cnt, ev_var, ev_cst, ev_tup, ev_lst, ev_bin, ev_neg, ev_not, ev_cmp, ev_chain, ev_and, ev_or, ev_ite, ev_ix, ev_sl, ev_back, ev_call, ev_bf, ev_met, evn_call, evns, evs, evp, evt, own, setAll, callC, derefs, isRef, op1, op2, dt, vd, vb, Cr.part, intD, deref, items_list, items_tuple, Cr.ixN, ix_tup, ix_list, ix_fr0, ix_fr1, ix_sp0, ix_sp1, ix_gsp0, ix_gsp1, items_fr, items_sp, items_rg, cmp_eqF, cmp_neF, binD, tru_int, tru_bool, bd_nm, bd_tup, bds_nil, bds_cons, frz, frzV, isNew, bfD, metS, metD, isLst, cmp_eqI, cmp_neI, cmp_ltI, cmp_leI, cmp_gtI, cmp_geI, cmp_isNone, cmp_isNoneT, cmp_notNone, cmp_notNoneT, cmp_notB, cmp_isB, cmp_neB, cmp_eqB, bd_sp, bd_gsp, bd_pkd, items_gsp, rf27, h1, h2, h3, h4, f]
theorem sz_neg {n : Nat} {q : Rat} (h : sz n q) : sz n (-q) := ⟨by rw [Rat.neg_num, Int.natAbs_neg]; exact h.1, by rw [Rat.neg_den]; exact h.2⟩
theorem run_law_less (d : Nat) {n m : Nat} {x y : Rat} (hx : sz n x) (hy : sz m y) (h : n + m + 1 ≤ 8192) : G.orc (d + 4) 30 [.d (fr x), .d (fr y)] [] = some (fr (x - y), false, []) := by
  rw [orc_fn (d + 3) pg30]
  have f := run_law_sum d hx (sz_neg hy) h
  have e : (PyData.tuple [.int (0 - y.num), .int (y.den : Int)]) = fr (-y) := by simp [fr]
  rw [← Rat.sub_eq_add_neg] at f
  simp [b30, runFn, sxs_cons, sxs_nil, sx_asg, sx_asgT, sx_alloc, sx_par, sx_if, sx_retV, ret_tup, evn_tup, ret_lst, evn_lst, ret_bin, evn_bin, ret_neg, evn_neg, ret_not, evn_not, ret_cmp, evn_cmp, ret_chain, evn_chain, ret_and, evn_and, ret_or, evn_or, ret_ite, evn_ite, ret_ix, evn_ix, ret_sl, evn_sl, ret_bf, evn_bf, ret_met, evn_met, ret_comp, evn_comp, ret_cst, evn_cst, ret_call, sx_expr, sx_aug, sx_brk, sx_cnt, ev_var, ev_cst, ev_tup, ev_lst, ev_bin, ev_neg, ev_not, ev_cmp, ev_chain, ev_and, ev_or, ev_ite, ev_ix, ev_sl, ev_back, ev_call, ev_bf, ev_met, evn_call, evns, evs, evp, evt, own, setAll, callC, derefs, isRef, op1, op2, dt, vd, vb, Cr.part, intD, deref, items_list, items_tuple, Cr.ixN, ix_tup, ix_list, ix_fr0, ix_fr1, ix_sp0, ix_sp1, ix_gsp0, ix_gsp1, items_fr, items_sp, items_rg, cmp_eqF, cmp_neF, binD, tru_int, tru_bool, bd_nm, bd_tup, bds_nil, bds_cons, frz, frzV, isNew, bfD, metS, metD, isLst, cmp_eqI, cmp_neI, cmp_ltI, cmp_leI, cmp_gtI, cmp_geI, cmp_isNone, cmp_isNoneT, cmp_notNone, cmp_notNoneT, cmp_notB, cmp_isB, cmp_neB, cmp_eqB, bd_sp, bd_gsp, bd_pkd, items_gsp, rf28, line]
  have e' : (PyData.tuple [.int (-y.num), .int (y.den : Int)]) = fr (-y) := rfl
  simp [e', f]
theorem run_law_below (d : Nat) {n m : Nat} {x y : Rat} (hx : sz n x) (hy : sz m y) (h : n ≤ 8192) (h' : m ≤ 8192) : G.orc (d + 1) 31 [.d (fr x), .d (fr y)] [] = some (.bool (decide (x < y)), false, []) := by
  rw [orc_fn d pg31]
  have h1 := hx.num h
  have h2 := hy.num h'
  have h3 := hx.den h
  have h4 := hy.den h'
  simp [b31, runFn, sxs_cons, sxs_nil, sx_asg, sx_asgT, sx_alloc, sx_par, sx_if, sx_retV, ret_tup, evn_tup, ret_lst, evn_lst, ret_bin, evn_bin, ret_neg, evn_neg, ret_not, evn_not, ret_cmp, evn_cmp, ret_chain, evn_chain, ret_and, evn_and, ret_or, evn_or, ret_ite, evn_ite, ret_ix, evn_ix, ret_sl, evn_sl, ret_bf, evn_bf, ret_met, evn_met, ret_comp, evn_comp, ret_cst, evn_cst, ret_call, sx_expr, sx_aug, sx_brk, sx_cnt, ev_var, ev_cst, ev_tup, ev_lst, ev_bin, ev_neg, ev_not, ev_cmp, ev_chain, ev_and, ev_or, ev_ite, ev_ix, ev_sl, ev_back, ev_call, ev_bf, ev_met, evn_call, evns, evs, evp, evt, own, setAll, callC, derefs, isRef, op1, op2, dt, vd, vb, Cr.part, intD, deref, items_list, items_tuple, Cr.ixN, ix_tup, ix_list, ix_fr0, ix_fr1, ix_sp0, ix_sp1, ix_gsp0, ix_gsp1, items_fr, items_sp, items_rg, cmp_eqF, cmp_neF, binD, tru_int, tru_bool, bd_nm, bd_tup, bds_nil, bds_cons, frz, frzV, isNew, bfD, metS, metD, isLst, cmp_eqI, cmp_neI, cmp_ltI, cmp_leI, cmp_gtI, cmp_geI, cmp_isNone, cmp_isNoneT, cmp_notNone, cmp_notNoneT, cmp_notB, cmp_isB, cmp_neB, cmp_eqB, bd_sp, bd_gsp, bd_pkd, items_gsp, h1, h2, h3, h4, cmp_num]
/-! ### spots -/
theorem run_under (d : Nat) {n m : Nat} {x y : Rat} (hx : sz n x) (hy : sz m y) (h : n ≤ 8192) (h' : m ≤ 8192) : G.orc (d + 2) 19 [.d (fr x), .d (fr y)] [] = some (.bool (decide (x < y)), false, []) := by
  rw [orc_fn (d + 1) pg19]
  have f := run_compared d hx hy h h'
  have e : decide ((if x = y then (0 : Int) else if y < x then 1 else -1) < 0) = decide (x < y) := by
    by_cases c1 : x = y
    · subst c1
      simp [Rat.lt_irrefl]
    · by_cases c2 : y < x
      · have : ¬ x < y := by grind
        simp [c1, c2, this]
      · have : x < y := by grind
        simp [c1, c2, this]
  simp [b19, runFn, sxs_cons, sxs_nil, sx_asg, sx_asgT, sx_alloc, sx_par, sx_if, sx_retV, ret_tup, evn_tup, ret_lst, evn_lst, ret_bin, evn_bin, ret_neg, evn_neg, ret_not, evn_not, ret_cmp, evn_cmp, ret_chain, evn_chain, ret_and, evn_and, ret_or, evn_or, ret_ite, evn_ite, ret_ix, evn_ix, ret_sl, evn_sl, ret_bf, evn_bf, ret_met, evn_met, ret_comp, evn_comp, ret_cst, evn_cst, ret_call, sx_expr, sx_aug, sx_brk, sx_cnt, ev_var, ev_cst, ev_tup, ev_lst, ev_bin, ev_neg, ev_not, ev_cmp, ev_chain, ev_and, ev_or, ev_ite, ev_ix, ev_sl, ev_back, ev_call, ev_bf, ev_met, evn_call, evns, evs, evp, evt, own, setAll, callC, derefs, isRef, op1, op2, dt, vd, vb, Cr.part, intD, deref, items_list, items_tuple, Cr.ixN, ix_tup, ix_list, ix_fr0, ix_fr1, ix_sp0, ix_sp1, ix_gsp0, ix_gsp1, items_fr, items_sp, items_rg, cmp_eqF, cmp_neF, binD, tru_int, tru_bool, bd_nm, bd_tup, bds_nil, bds_cons, frz, frzV, isNew, bfD, metS, metD, isLst, cmp_eqI, cmp_neI, cmp_ltI, cmp_leI, cmp_gtI, cmp_geI, cmp_isNone, cmp_isNoneT, cmp_notNone, cmp_notNoneT, cmp_notB, cmp_isB, cmp_neB, cmp_eqB, bd_sp, bd_gsp, bd_pkd, items_gsp, rf8, f, e]
theorem run_height_at (d : Nat) {n m k : Nat} {a b : Pt} {x : Rat} (ha : szp n a) (hb : szp m b) (hx : sz k x) (h0 : b.1 - a.1 ≠ 0) (h : 4 * n + 2 * m + k + 4 ≤ 8192) : G.orc (d + 5) 12 [.d (sp a), .d (sp b), .d (fr x)] [] = some (fr (hgt a b x), false, []) := by
  rw [orc_fn (d + 4) pg12]
  have f1 := run_lessened (d + 1) hx ha.1 (by omega)
  have f2 := run_lessened (d + 1) hb.1 ha.1 (by omega)
  have f3 := run_divided (d + 1) (sz_sub hx ha.1) (sz_sub hb.1 ha.1) h0 (by omega)
  have f4 := run_between d ha.2 hb.2 (sz_quo (sz_sub hx ha.1) (sz_sub hb.1 ha.1) h0) (by omega)
  simp [b12, runFn, sxs_cons, sxs_nil, sx_asg, sx_asgT, sx_alloc, sx_par, sx_if, sx_retV, ret_tup, evn_tup, ret_lst, evn_lst, ret_bin, evn_bin, ret_neg, evn_neg, ret_not, evn_not, ret_cmp, evn_cmp, ret_chain, evn_chain, ret_and, evn_and, ret_or, evn_or, ret_ite, evn_ite, ret_ix, evn_ix, ret_sl, evn_sl, ret_bf, evn_bf, ret_met, evn_met, ret_comp, evn_comp, ret_cst, evn_cst, ret_call, sx_expr, sx_aug, sx_brk, sx_cnt, ev_var, ev_cst, ev_tup, ev_lst, ev_bin, ev_neg, ev_not, ev_cmp, ev_chain, ev_and, ev_or, ev_ite, ev_ix, ev_sl, ev_back, ev_call, ev_bf, ev_met, evn_call, evns, evs, evp, evt, own, setAll, callC, derefs, isRef, op1, op2, dt, vd, vb, Cr.part, intD, deref, items_list, items_tuple, Cr.ixN, ix_tup, ix_list, ix_fr0, ix_fr1, ix_sp0, ix_sp1, ix_gsp0, ix_gsp1, items_fr, items_sp, items_rg, cmp_eqF, cmp_neF, binD, tru_int, tru_bool, bd_nm, bd_tup, bds_nil, bds_cons, frz, frzV, isNew, bfD, metS, metD, isLst, cmp_eqI, cmp_neI, cmp_ltI, cmp_leI, cmp_gtI, cmp_geI, cmp_isNone, cmp_isNoneT, cmp_notNone, cmp_notNoneT, cmp_notB, cmp_isB, cmp_neB, cmp_eqB, bd_sp, bd_gsp, bd_pkd, items_gsp, rf0, rf1, rf2, rf3, rf4, rf5, rf6, rf7, rf8, rf9, rf10, rf11, rf12, rf13, rf14, rf15, rf16, rf17, rf18, rf19, rf20, rf21, rf22, rf23, rf24, rf25, rf26, rf27, rf28, rf29, rf30, rf31, rf32, rf33, rf34, rf35, rf36, rf37, rf38, rf39, rf40, rf41, rf42, rf43, rf44, rf45, f1, f2, f3, f4, hgt]
theorem sz_hgt {n m k : Nat} {a b : Pt} {x : Rat} (ha : szp n a) (hb : szp m b) (hx : sz k x) (h0 : b.1 - a.1 ≠ 0) : sz (4 * n + 2 * m + k + 4) (hgt a b x) :=
  (sz_add ha.2 (sz_mul (sz_quo (sz_sub hx ha.1) (sz_sub hb.1 ha.1) h0) (sz_sub hb.2 ha.2))).mono (by omega)
theorem run_place_at (d : Nat) {n m k : Nat} {a b : Pt} {x : Rat} (ha : szp n a) (hb : szp m b) (hx : sz k x) (h0 : b.2 - a.2 ≠ 0) (h : 4 * n + 2 * m + k + 4 ≤ 8192) : G.orc (d + 5) 13 [.d (sp a), .d (sp b), .d (fr x)] [] = some (fr (plc a b x), false, []) := by
  rw [orc_fn (d + 4) pg13]
  have f1 := run_lessened (d + 1) hx ha.2 (by omega)
  have f2 := run_lessened (d + 1) hb.2 ha.2 (by omega)
  have f3 := run_divided (d + 1) (sz_sub hx ha.2) (sz_sub hb.2 ha.2) h0 (by omega)
  have f4 := run_between d ha.1 hb.1 (sz_quo (sz_sub hx ha.2) (sz_sub hb.2 ha.2) h0) (by omega)
  simp [b13, runFn, sxs_cons, sxs_nil, sx_asg, sx_asgT, sx_alloc, sx_par, sx_if, sx_retV, ret_tup, evn_tup, ret_lst, evn_lst, ret_bin, evn_bin, ret_neg, evn_neg, ret_not, evn_not, ret_cmp, evn_cmp, ret_chain, evn_chain, ret_and, evn_and, ret_or, evn_or, ret_ite, evn_ite, ret_ix, evn_ix, ret_sl, evn_sl, ret_bf, evn_bf, ret_met, evn_met, ret_comp, evn_comp, ret_cst, evn_cst, ret_call, sx_expr, sx_aug, sx_brk, sx_cnt, ev_var, ev_cst, ev_tup, ev_lst, ev_bin, ev_neg, ev_not, ev_cmp, ev_chain, ev_and, ev_or, ev_ite, ev_ix, ev_sl, ev_back, ev_call, ev_bf, ev_met, evn_call, evns, evs, evp, evt, own, setAll, callC, derefs, isRef, op1, op2, dt, vd, vb, Cr.part, intD, deref, items_list, items_tuple, Cr.ixN, ix_tup, ix_list, ix_fr0, ix_fr1, ix_sp0, ix_sp1, ix_gsp0, ix_gsp1, items_fr, items_sp, items_rg, cmp_eqF, cmp_neF, binD, tru_int, tru_bool, bd_nm, bd_tup, bds_nil, bds_cons, frz, frzV, isNew, bfD, metS, metD, isLst, cmp_eqI, cmp_neI, cmp_ltI, cmp_leI, cmp_gtI, cmp_geI, cmp_isNone, cmp_isNoneT, cmp_notNone, cmp_notNoneT, cmp_notB, cmp_isB, cmp_neB, cmp_eqB, bd_sp, bd_gsp, bd_pkd, items_gsp, rf0, rf1, rf2, rf3, rf4, rf5, rf6, rf7, rf8, rf9, rf10, rf11, rf12, rf13, rf14, rf15, rf16, rf17, rf18, rf19, rf20, rf21, rf22, rf23, rf24, rf25, rf26, rf27, rf28, rf29, rf30, rf31, rf32, rf33, rf34, rf35, rf36, rf37, rf38, rf39, rf40, rf41, rf42, rf43, rf44, rf45, f1, f2, f3, f4, plc]
theorem sz_plc {n m k : Nat} {a b : Pt} {x : Rat} (ha : szp n a) (hb : szp m b) (hx : sz k x) (h0 : b.2 - a.2 ≠ 0) : sz (4 * n + 2 * m + k + 4) (plc a b x) :=
  (sz_add ha.1 (sz_mul (sz_quo (sz_sub hx ha.2) (sz_sub hb.2 ha.2) h0) (sz_sub hb.1 ha.1))).mono (by omega)
theorem run_spot_between (d : Nat) {n m k : Nat} {a b : Pt} {t : Rat} (ha : szp n a) (hb : szp m b) (ht : sz k t) (h : n + (k + (m + n + 1)) + 1 ≤ 8192) : G.orc (d + 5) 14 [.d (sp a), .d (sp b), .d (fr t)] [] = some (sp (mid a b t), false, []) := by
  rw [orc_fn (d + 4) pg14]
  have f1 := run_between d ha.1 hb.1 ht h
  have f2 := run_between d ha.2 hb.2 ht h
  simp [b14, runFn, sxs_cons, sxs_nil, sx_asg, sx_asgT, sx_alloc, sx_par, sx_if, sx_retV, ret_tup, evn_tup, ret_lst, evn_lst, ret_bin, evn_bin, ret_neg, evn_neg, ret_not, evn_not, ret_cmp, evn_cmp, ret_chain, evn_chain, ret_and, evn_and, ret_or, evn_or, ret_ite, evn_ite, ret_ix, evn_ix, ret_sl, evn_sl, ret_bf, evn_bf, ret_met, evn_met, ret_comp, evn_comp, ret_cst, evn_cst, ret_call, sx_expr, sx_aug, sx_brk, sx_cnt, ev_var, ev_cst, ev_tup, ev_lst, ev_bin, ev_neg, ev_not, ev_cmp, ev_chain, ev_and, ev_or, ev_ite, ev_ix, ev_sl, ev_back, ev_call, ev_bf, ev_met, evn_call, evns, evs, evp, evt, own, setAll, callC, derefs, isRef, op1, op2, dt, vd, vb, Cr.part, intD, deref, items_list, items_tuple, Cr.ixN, ix_tup, ix_list, ix_fr0, ix_fr1, ix_sp0, ix_sp1, ix_gsp0, ix_gsp1, items_fr, items_sp, items_rg, cmp_eqF, cmp_neF, binD, tru_int, tru_bool, bd_nm, bd_tup, bds_nil, bds_cons, frz, frzV, isNew, bfD, metS, metD, isLst, cmp_eqI, cmp_neI, cmp_ltI, cmp_leI, cmp_gtI, cmp_geI, cmp_isNone, cmp_isNoneT, cmp_notNone, cmp_notNoneT, cmp_notB, cmp_isB, cmp_neB, cmp_eqB, bd_sp, bd_gsp, bd_pkd, items_gsp, rf0, rf1, rf2, rf3, rf4, rf5, rf6, rf7, rf8, rf9, rf10, rf11, rf12, rf13, rf14, rf15, rf16, rf17, rf18, rf19, rf20, rf21, rf22, rf23, rf24, rf25, rf26, rf27, rf28, rf29, rf30, rf31, rf32, rf33, rf34, rf35, rf36, rf37, rf38, rf39, rf40, rf41, rf42, rf43, rf44, rf45, f1, f2, mid, sp, line]
theorem sz_mid {n m k : Nat} {a b : Pt} {t : Rat} (ha : szp n a) (hb : szp m b) (ht : sz k t) : szp (2 * n + m + k + 2) (mid a b t) :=
  ⟨(sz_add ha.1 (sz_mul ht (sz_sub hb.1 ha.1))).mono (by omega), (sz_add ha.2 (sz_mul ht (sz_sub hb.2 ha.2))).mono (by omega)⟩
theorem run_least (d : Nat) {n : Nat} {D : PyData} {x : Rat} {xs : List Rat} (hD : items D = some ((x :: xs).map fr)) (hx : ∀ y ∈ x :: xs, sz n y) (h : n ≤ 8192) : G.orc (d + 2) 9 [.d D] [] = some (fr (minL (x :: xs)), false, []) := by
  rw [orc_fn (d + 1) pg9]
  have key : ∀ (g : Store → Prop) (hg : ∀ S, g S) (ys : List Rat) (f : Rat) (o : Option PV), (∀ y ∈ ys, sz n y) → sz n f → ∃ o', forL g (fun (y : PyData) (ρ : Ev) (S : Store) => (bd (.nm 2) y ρ).bind fun ρ1 => sxs ⟨G.refs, G.orc (d + 1)⟩ 0 [.asg (.nm 1) (.ite (.cmp .lt (.call 8 [(.var 2), (.var 1)]) (.cst (.int 0))) (.var 2) (.var 1))] ρ1 S) (ys.map fr) [some (.d D), some (.d (fr f)), o] [] = some (.nx [some (.d D), some (.d (fr (ys.foldl minF f))), o'] []) := by
    intro g hg ys
    induction ys with
    | nil => intro f o _ _; exact ⟨o, forL_nil (hg _)⟩
    | cons y ys ih =>
      intro f o hy hf
      obtain ⟨o', e⟩ := ih (minF f y) (some (.d (fr y))) (fun z hz => hy z (List.mem_cons_of_mem _ hz)) (by unfold minF; split; exact hy y List.mem_cons_self; exact hf)
      refine ⟨o', ?_⟩
      rw [List.map_cons, forL_cons (ρ' := [some (.d D), some (.d (fr (minF f y))), some (.d (fr y))]) (S' := []) (hg _) ?_, e]
      · rfl
      · have g := run_compared d (hy y List.mem_cons_self) hf h h
        by_cases c1 : y = f
        · subst c1
          rw [if_pos rfl] at g
          simp [runFn, sxs_cons, sxs_nil, sx_asg, sx_asgT, sx_alloc, sx_par, sx_if, sx_retV, ret_tup, evn_tup, ret_lst, evn_lst, ret_bin, evn_bin, ret_neg, evn_neg, ret_not, evn_not, ret_cmp, evn_cmp, ret_chain, evn_chain, ret_and, evn_and, ret_or, evn_or, ret_ite, evn_ite, ret_ix, evn_ix, ret_sl, evn_sl, ret_bf, evn_bf, ret_met, evn_met, ret_comp, evn_comp, ret_cst, evn_cst, ret_call, sx_expr, sx_aug, sx_brk, sx_cnt, ev_var, ev_cst, ev_tup, ev_lst, ev_bin, ev_neg, ev_not, ev_cmp, ev_chain, ev_and, ev_or, ev_ite, ev_ix, ev_sl, ev_back, ev_call, ev_bf, ev_met, evn_call, evns, evs, evp, evt, own, setAll, callC, derefs, isRef, op1, op2, dt, vd, vb, Cr.part, intD, deref, items_list, items_tuple, Cr.ixN, ix_tup, ix_list, ix_fr0, ix_fr1, ix_sp0, ix_sp1, ix_gsp0, ix_gsp1, items_fr, items_sp, items_rg, cmp_eqF, cmp_neF, binD, tru_int, tru_bool, bd_nm, bd_tup, bds_nil, bds_cons, frz, frzV, isNew, bfD, metS, metD, isLst, cmp_eqI, cmp_neI, cmp_ltI, cmp_leI, cmp_gtI, cmp_geI, cmp_isNone, cmp_isNoneT, cmp_notNone, cmp_notNoneT, cmp_notB, cmp_isB, cmp_neB, cmp_eqB, bd_sp, bd_gsp, bd_pkd, items_gsp, rf8, g, minF]
        · rw [if_neg c1] at g
          by_cases c2 : f < y
          · have c3 : ¬ y < f := by grind
            rw [if_pos c2] at g
            simp [runFn, sxs_cons, sxs_nil, sx_asg, sx_asgT, sx_alloc, sx_par, sx_if, sx_retV, ret_tup, evn_tup, ret_lst, evn_lst, ret_bin, evn_bin, ret_neg, evn_neg, ret_not, evn_not, ret_cmp, evn_cmp, ret_chain, evn_chain, ret_and, evn_and, ret_or, evn_or, ret_ite, evn_ite, ret_ix, evn_ix, ret_sl, evn_sl, ret_bf, evn_bf, ret_met, evn_met, ret_comp, evn_comp, ret_cst, evn_cst, ret_call, sx_expr, sx_aug, sx_brk, sx_cnt, ev_var, ev_cst, ev_tup, ev_lst, ev_bin, ev_neg, ev_not, ev_cmp, ev_chain, ev_and, ev_or, ev_ite, ev_ix, ev_sl, ev_back, ev_call, ev_bf, ev_met, evn_call, evns, evs, evp, evt, own, setAll, callC, derefs, isRef, op1, op2, dt, vd, vb, Cr.part, intD, deref, items_list, items_tuple, Cr.ixN, ix_tup, ix_list, ix_fr0, ix_fr1, ix_sp0, ix_sp1, ix_gsp0, ix_gsp1, items_fr, items_sp, items_rg, cmp_eqF, cmp_neF, binD, tru_int, tru_bool, bd_nm, bd_tup, bds_nil, bds_cons, frz, frzV, isNew, bfD, metS, metD, isLst, cmp_eqI, cmp_neI, cmp_ltI, cmp_leI, cmp_gtI, cmp_geI, cmp_isNone, cmp_isNoneT, cmp_notNone, cmp_notNoneT, cmp_notB, cmp_isB, cmp_neB, cmp_eqB, bd_sp, bd_gsp, bd_pkd, items_gsp, rf8, g, minF, c2, c3]
          · have c3 : y < f := by grind
            rw [if_neg c2] at g
            simp [runFn, sxs_cons, sxs_nil, sx_asg, sx_asgT, sx_alloc, sx_par, sx_if, sx_retV, ret_tup, evn_tup, ret_lst, evn_lst, ret_bin, evn_bin, ret_neg, evn_neg, ret_not, evn_not, ret_cmp, evn_cmp, ret_chain, evn_chain, ret_and, evn_and, ret_or, evn_or, ret_ite, evn_ite, ret_ix, evn_ix, ret_sl, evn_sl, ret_bf, evn_bf, ret_met, evn_met, ret_comp, evn_comp, ret_cst, evn_cst, ret_call, sx_expr, sx_aug, sx_brk, sx_cnt, ev_var, ev_cst, ev_tup, ev_lst, ev_bin, ev_neg, ev_not, ev_cmp, ev_chain, ev_and, ev_or, ev_ite, ev_ix, ev_sl, ev_back, ev_call, ev_bf, ev_met, evn_call, evns, evs, evp, evt, own, setAll, callC, derefs, isRef, op1, op2, dt, vd, vb, Cr.part, intD, deref, items_list, items_tuple, Cr.ixN, ix_tup, ix_list, ix_fr0, ix_fr1, ix_sp0, ix_sp1, ix_gsp0, ix_gsp1, items_fr, items_sp, items_rg, cmp_eqF, cmp_neF, binD, tru_int, tru_bool, bd_nm, bd_tup, bds_nil, bds_cons, frz, frzV, isNew, bfD, metS, metD, isLst, cmp_eqI, cmp_neI, cmp_ltI, cmp_leI, cmp_gtI, cmp_geI, cmp_isNone, cmp_isNoneT, cmp_notNone, cmp_notNoneT, cmp_notB, cmp_isB, cmp_neB, cmp_eqB, bd_sp, bd_gsp, bd_pkd, items_gsp, rf8, g, minF, c2, c3]
  have hD' : items D = some (fr x :: xs.map fr) := hD
  have h0 : ixD D (.int 0) = some (fr x) := ix_at (i := 0) hD rfl
  have hfor : ∃ o', sx ⟨G.refs, G.orc (d + 1)⟩ 0 (.sfor (.nm 2) (.var 0) [.asg (.nm 1) (.ite (.cmp .lt (.call 8 [(.var 2), (.var 1)]) (.cst (.int 0))) (.var 2) (.var 1))]) [some (.d D), some (.d (fr x)), none] [] = some (.nx [some (.d D), some (.d (fr (minL (x :: xs)))), o'] []) := by
    obtain ⟨o', e⟩ := key (still (.d D) ((x :: xs).map fr)) (fun _ => trivial) (x :: xs) x none hx (hx x List.mem_cons_self)
    refine ⟨o', ?_⟩
    have e2 : (x :: xs).foldl minF x = minL (x :: xs) := by
      rw [List.foldl_cons, minF_self]
      rfl
    have he : evi ⟨G.refs, G.orc (d + 1)⟩ (.var 0) [some (.d D), some (.d (fr x)), none] [] = some (((x :: xs).map fr, still (.d D) ((x :: xs).map fr)), []) := by
      simp [evi, itV, ev, deref, hD']
    rw [e2] at e
    rw [sx_for, he]
    exact e
  obtain ⟨o', hfor⟩ := hfor
  simp [b9, runFn, sxs_cons, sxs_nil, sx_asg, sx_asgT, sx_alloc, sx_par, sx_if, sx_retV, ret_tup, evn_tup, ret_lst, evn_lst, ret_bin, evn_bin, ret_neg, evn_neg, ret_not, evn_not, ret_cmp, evn_cmp, ret_chain, evn_chain, ret_and, evn_and, ret_or, evn_or, ret_ite, evn_ite, ret_ix, evn_ix, ret_sl, evn_sl, ret_bf, evn_bf, ret_met, evn_met, ret_comp, evn_comp, ret_cst, evn_cst, ret_call, sx_expr, sx_aug, sx_brk, sx_cnt, ev_var, ev_cst, ev_tup, ev_lst, ev_bin, ev_neg, ev_not, ev_cmp, ev_chain, ev_and, ev_or, ev_ite, ev_ix, ev_sl, ev_back, ev_call, ev_bf, ev_met, evn_call, evns, evs, evp, evt, own, setAll, callC, derefs, isRef, op1, op2, dt, vd, vb, Cr.part, intD, deref, items_list, items_tuple, Cr.ixN, ix_tup, ix_list, ix_fr0, ix_fr1, ix_sp0, ix_sp1, ix_gsp0, ix_gsp1, items_fr, items_sp, items_rg, cmp_eqF, cmp_neF, binD, tru_int, tru_bool, bd_nm, bd_tup, bds_nil, bds_cons, frz, frzV, isNew, bfD, metS, metD, isLst, cmp_eqI, cmp_neI, cmp_ltI, cmp_leI, cmp_gtI, cmp_geI, cmp_isNone, cmp_isNoneT, cmp_notNone, cmp_notNoneT, cmp_notB, cmp_isB, cmp_neB, cmp_eqB, bd_sp, bd_gsp, bd_pkd, items_gsp, h0, hfor]
theorem run_greatest (d : Nat) {n : Nat} {D : PyData} {x : Rat} {xs : List Rat} (hD : items D = some ((x :: xs).map fr)) (hx : ∀ y ∈ x :: xs, sz n y) (h : n ≤ 8192) : G.orc (d + 2) 10 [.d D] [] = some (fr (maxL (x :: xs)), false, []) := by
  rw [orc_fn (d + 1) pg10]
  have key : ∀ (g : Store → Prop) (hg : ∀ S, g S) (ys : List Rat) (f : Rat) (o : Option PV), (∀ y ∈ ys, sz n y) → sz n f → ∃ o', forL g (fun (y : PyData) (ρ : Ev) (S : Store) => (bd (.nm 2) y ρ).bind fun ρ1 => sxs ⟨G.refs, G.orc (d + 1)⟩ 0 [.asg (.nm 1) (.ite (.cmp .gt (.call 8 [(.var 2), (.var 1)]) (.cst (.int 0))) (.var 2) (.var 1))] ρ1 S) (ys.map fr) [some (.d D), some (.d (fr f)), o] [] = some (.nx [some (.d D), some (.d (fr (ys.foldl maxF f))), o'] []) := by
    intro g hg ys
    induction ys with
    | nil => intro f o _ _; exact ⟨o, forL_nil (hg _)⟩
    | cons y ys ih =>
      intro f o hy hf
      obtain ⟨o', e⟩ := ih (maxF f y) (some (.d (fr y))) (fun z hz => hy z (List.mem_cons_of_mem _ hz)) (by unfold maxF; split; exact hy y List.mem_cons_self; exact hf)
      refine ⟨o', ?_⟩
      rw [List.map_cons, forL_cons (ρ' := [some (.d D), some (.d (fr (maxF f y))), some (.d (fr y))]) (S' := []) (hg _) ?_, e]
      · rfl
      · have g := run_compared d (hy y List.mem_cons_self) hf h h
        by_cases c1 : y = f
        · subst c1
          rw [if_pos rfl] at g
          simp [runFn, sxs_cons, sxs_nil, sx_asg, sx_asgT, sx_alloc, sx_par, sx_if, sx_retV, ret_tup, evn_tup, ret_lst, evn_lst, ret_bin, evn_bin, ret_neg, evn_neg, ret_not, evn_not, ret_cmp, evn_cmp, ret_chain, evn_chain, ret_and, evn_and, ret_or, evn_or, ret_ite, evn_ite, ret_ix, evn_ix, ret_sl, evn_sl, ret_bf, evn_bf, ret_met, evn_met, ret_comp, evn_comp, ret_cst, evn_cst, ret_call, sx_expr, sx_aug, sx_brk, sx_cnt, ev_var, ev_cst, ev_tup, ev_lst, ev_bin, ev_neg, ev_not, ev_cmp, ev_chain, ev_and, ev_or, ev_ite, ev_ix, ev_sl, ev_back, ev_call, ev_bf, ev_met, evn_call, evns, evs, evp, evt, own, setAll, callC, derefs, isRef, op1, op2, dt, vd, vb, Cr.part, intD, deref, items_list, items_tuple, Cr.ixN, ix_tup, ix_list, ix_fr0, ix_fr1, ix_sp0, ix_sp1, ix_gsp0, ix_gsp1, items_fr, items_sp, items_rg, cmp_eqF, cmp_neF, binD, tru_int, tru_bool, bd_nm, bd_tup, bds_nil, bds_cons, frz, frzV, isNew, bfD, metS, metD, isLst, cmp_eqI, cmp_neI, cmp_ltI, cmp_leI, cmp_gtI, cmp_geI, cmp_isNone, cmp_isNoneT, cmp_notNone, cmp_notNoneT, cmp_notB, cmp_isB, cmp_neB, cmp_eqB, bd_sp, bd_gsp, bd_pkd, items_gsp, rf8, g, maxF]
        · rw [if_neg c1] at g
          by_cases c2 : f < y
          · have c3 : ¬ y < f := by grind
            rw [if_pos c2] at g
            simp [runFn, sxs_cons, sxs_nil, sx_asg, sx_asgT, sx_alloc, sx_par, sx_if, sx_retV, ret_tup, evn_tup, ret_lst, evn_lst, ret_bin, evn_bin, ret_neg, evn_neg, ret_not, evn_not, ret_cmp, evn_cmp, ret_chain, evn_chain, ret_and, evn_and, ret_or, evn_or, ret_ite, evn_ite, ret_ix, evn_ix, ret_sl, evn_sl, ret_bf, evn_bf, ret_met, evn_met, ret_comp, evn_comp, ret_cst, evn_cst, ret_call, sx_expr, sx_aug, sx_brk, sx_cnt, ev_var, ev_cst, ev_tup, ev_lst, ev_bin, ev_neg, ev_not, ev_cmp, ev_chain, ev_and, ev_or, ev_ite, ev_ix, ev_sl, ev_back, ev_call, ev_bf, ev_met, evn_call, evns, evs, evp, evt, own, setAll, callC, derefs, isRef, op1, op2, dt, vd, vb, Cr.part, intD, deref, items_list, items_tuple, Cr.ixN, ix_tup, ix_list, ix_fr0, ix_fr1, ix_sp0, ix_sp1, ix_gsp0, ix_gsp1, items_fr, items_sp, items_rg, cmp_eqF, cmp_neF, binD, tru_int, tru_bool, bd_nm, bd_tup, bds_nil, bds_cons, frz, frzV, isNew, bfD, metS, metD, isLst, cmp_eqI, cmp_neI, cmp_ltI, cmp_leI, cmp_gtI, cmp_geI, cmp_isNone, cmp_isNoneT, cmp_notNone, cmp_notNoneT, cmp_notB, cmp_isB, cmp_neB, cmp_eqB, bd_sp, bd_gsp, bd_pkd, items_gsp, rf8, g, maxF, c2, c3]
          · have c3 : y < f := by grind
            rw [if_neg c2] at g
            simp [runFn, sxs_cons, sxs_nil, sx_asg, sx_asgT, sx_alloc, sx_par, sx_if, sx_retV, ret_tup, evn_tup, ret_lst, evn_lst, ret_bin, evn_bin, ret_neg, evn_neg, ret_not, evn_not, ret_cmp, evn_cmp, ret_chain, evn_chain, ret_and, evn_and, ret_or, evn_or, ret_ite, evn_ite, ret_ix, evn_ix, ret_sl, evn_sl, ret_bf, evn_bf, ret_met, evn_met, ret_comp, evn_comp, ret_cst, evn_cst, ret_call, sx_expr, sx_aug, sx_brk, sx_cnt, ev_var, ev_cst, ev_tup, ev_lst, ev_bin, ev_neg, ev_not, ev_cmp, ev_chain, ev_and, ev_or, ev_ite, ev_ix, ev_sl, ev_back, ev_call, ev_bf, ev_met, evn_call, evns, evs, evp, evt, own, setAll, callC, derefs, isRef, op1, op2, dt, vd, vb, Cr.part, intD, deref, items_list, items_tuple, Cr.ixN, ix_tup, ix_list, ix_fr0, ix_fr1, ix_sp0, ix_sp1, ix_gsp0, ix_gsp1, items_fr, items_sp, items_rg, cmp_eqF, cmp_neF, binD, tru_int, tru_bool, bd_nm, bd_tup, bds_nil, bds_cons, frz, frzV, isNew, bfD, metS, metD, isLst, cmp_eqI, cmp_neI, cmp_ltI, cmp_leI, cmp_gtI, cmp_geI, cmp_isNone, cmp_isNoneT, cmp_notNone, cmp_notNoneT, cmp_notB, cmp_isB, cmp_neB, cmp_eqB, bd_sp, bd_gsp, bd_pkd, items_gsp, rf8, g, maxF, c2, c3]
  have hD' : items D = some (fr x :: xs.map fr) := hD
  have h0 : ixD D (.int 0) = some (fr x) := ix_at (i := 0) hD rfl
  have hfor : ∃ o', sx ⟨G.refs, G.orc (d + 1)⟩ 0 (.sfor (.nm 2) (.var 0) [.asg (.nm 1) (.ite (.cmp .gt (.call 8 [(.var 2), (.var 1)]) (.cst (.int 0))) (.var 2) (.var 1))]) [some (.d D), some (.d (fr x)), none] [] = some (.nx [some (.d D), some (.d (fr (maxL (x :: xs)))), o'] []) := by
    obtain ⟨o', e⟩ := key (still (.d D) ((x :: xs).map fr)) (fun _ => trivial) (x :: xs) x none hx (hx x List.mem_cons_self)
    refine ⟨o', ?_⟩
    have e2 : (x :: xs).foldl maxF x = maxL (x :: xs) := by
      rw [List.foldl_cons, maxF_self]
      rfl
    have he : evi ⟨G.refs, G.orc (d + 1)⟩ (.var 0) [some (.d D), some (.d (fr x)), none] [] = some (((x :: xs).map fr, still (.d D) ((x :: xs).map fr)), []) := by
      simp [evi, itV, ev, deref, hD']
    rw [e2] at e
    rw [sx_for, he]
    exact e
  obtain ⟨o', hfor⟩ := hfor
  simp [b10, runFn, sxs_cons, sxs_nil, sx_asg, sx_asgT, sx_alloc, sx_par, sx_if, sx_retV, ret_tup, evn_tup, ret_lst, evn_lst, ret_bin, evn_bin, ret_neg, evn_neg, ret_not, evn_not, ret_cmp, evn_cmp, ret_chain, evn_chain, ret_and, evn_and, ret_or, evn_or, ret_ite, evn_ite, ret_ix, evn_ix, ret_sl, evn_sl, ret_bf, evn_bf, ret_met, evn_met, ret_comp, evn_comp, ret_cst, evn_cst, ret_call, sx_expr, sx_aug, sx_brk, sx_cnt, ev_var, ev_cst, ev_tup, ev_lst, ev_bin, ev_neg, ev_not, ev_cmp, ev_chain, ev_and, ev_or, ev_ite, ev_ix, ev_sl, ev_back, ev_call, ev_bf, ev_met, evn_call, evns, evs, evp, evt, own, setAll, callC, derefs, isRef, op1, op2, dt, vd, vb, Cr.part, intD, deref, items_list, items_tuple, Cr.ixN, ix_tup, ix_list, ix_fr0, ix_fr1, ix_sp0, ix_sp1, ix_gsp0, ix_gsp1, items_fr, items_sp, items_rg, cmp_eqF, cmp_neF, binD, tru_int, tru_bool, bd_nm, bd_tup, bds_nil, bds_cons, frz, frzV, isNew, bfD, metS, metD, isLst, cmp_eqI, cmp_neI, cmp_ltI, cmp_leI, cmp_gtI, cmp_geI, cmp_isNone, cmp_isNoneT, cmp_notNone, cmp_notNoneT, cmp_notB, cmp_isB, cmp_neB, cmp_eqB, bd_sp, bd_gsp, bd_pkd, items_gsp, h0, hfor]
theorem run_law_least (d : Nat) {n : Nat} {D : PyData} {x : Rat} {xs : List Rat} (hD : items D = some ((x :: xs).map fr)) (hx : ∀ y ∈ x :: xs, sz n y) (h : n ≤ 8192) : G.orc (d + 2) 33 [.d D] [] = some (fr (minL (x :: xs)), false, []) := by
  rw [orc_fn (d + 1) pg33]
  have key : ∀ (g : Store → Prop) (hg : ∀ S, g S) (ys : List Rat) (f : Rat) (o : Option PV), (∀ y ∈ ys, sz n y) → sz n f → ∃ o', forL g (fun (y : PyData) (ρ : Ev) (S : Store) => (bd (.nm 2) y ρ).bind fun ρ1 => sxs ⟨G.refs, G.orc (d + 1)⟩ 0 [.asg (.nm 1) (.ite (.call 31 [(.var 2), (.var 1)]) (.var 2) (.var 1))] ρ1 S) (ys.map fr) [some (.d D), some (.d (fr f)), o] [] = some (.nx [some (.d D), some (.d (fr (ys.foldl minF f))), o'] []) := by
    intro g hg ys
    induction ys with
    | nil => intro f o _ _; exact ⟨o, forL_nil (hg _)⟩
    | cons y ys ih =>
      intro f o hy hf
      obtain ⟨o', e⟩ := ih (minF f y) (some (.d (fr y))) (fun z hz => hy z (List.mem_cons_of_mem _ hz)) (by unfold minF; split; exact hy y List.mem_cons_self; exact hf)
      refine ⟨o', ?_⟩
      rw [List.map_cons, forL_cons (ρ' := [some (.d D), some (.d (fr (minF f y))), some (.d (fr y))]) (S' := []) (hg _) ?_, e]
      · rfl
      · have g := run_law_below d (hy y List.mem_cons_self) hf h h
        by_cases c : y < f
        · simp [runFn, sxs_cons, sxs_nil, sx_asg, sx_asgT, sx_alloc, sx_par, sx_if, sx_retV, ret_tup, evn_tup, ret_lst, evn_lst, ret_bin, evn_bin, ret_neg, evn_neg, ret_not, evn_not, ret_cmp, evn_cmp, ret_chain, evn_chain, ret_and, evn_and, ret_or, evn_or, ret_ite, evn_ite, ret_ix, evn_ix, ret_sl, evn_sl, ret_bf, evn_bf, ret_met, evn_met, ret_comp, evn_comp, ret_cst, evn_cst, ret_call, sx_expr, sx_aug, sx_brk, sx_cnt, ev_var, ev_cst, ev_tup, ev_lst, ev_bin, ev_neg, ev_not, ev_cmp, ev_chain, ev_and, ev_or, ev_ite, ev_ix, ev_sl, ev_back, ev_call, ev_bf, ev_met, evn_call, evns, evs, evp, evt, own, setAll, callC, derefs, isRef, op1, op2, dt, vd, vb, Cr.part, intD, deref, items_list, items_tuple, Cr.ixN, ix_tup, ix_list, ix_fr0, ix_fr1, ix_sp0, ix_sp1, ix_gsp0, ix_gsp1, items_fr, items_sp, items_rg, cmp_eqF, cmp_neF, binD, tru_int, tru_bool, bd_nm, bd_tup, bds_nil, bds_cons, frz, frzV, isNew, bfD, metS, metD, isLst, cmp_eqI, cmp_neI, cmp_ltI, cmp_leI, cmp_gtI, cmp_geI, cmp_isNone, cmp_isNoneT, cmp_notNone, cmp_notNoneT, cmp_notB, cmp_isB, cmp_neB, cmp_eqB, bd_sp, bd_gsp, bd_pkd, items_gsp, rf31, g, minF, c]
        · simp [runFn, sxs_cons, sxs_nil, sx_asg, sx_asgT, sx_alloc, sx_par, sx_if, sx_retV, ret_tup, evn_tup, ret_lst, evn_lst, ret_bin, evn_bin, ret_neg, evn_neg, ret_not, evn_not, ret_cmp, evn_cmp, ret_chain, evn_chain, ret_and, evn_and, ret_or, evn_or, ret_ite, evn_ite, ret_ix, evn_ix, ret_sl, evn_sl, ret_bf, evn_bf, ret_met, evn_met, ret_comp, evn_comp, ret_cst, evn_cst, ret_call, sx_expr, sx_aug, sx_brk, sx_cnt, ev_var, ev_cst, ev_tup, ev_lst, ev_bin, ev_neg, ev_not, ev_cmp, ev_chain, ev_and, ev_or, ev_ite, ev_ix, ev_sl, ev_back, ev_call, ev_bf, ev_met, evn_call, evns, evs, evp, evt, own, setAll, callC, derefs, isRef, op1, op2, dt, vd, vb, Cr.part, intD, deref, items_list, items_tuple, Cr.ixN, ix_tup, ix_list, ix_fr0, ix_fr1, ix_sp0, ix_sp1, ix_gsp0, ix_gsp1, items_fr, items_sp, items_rg, cmp_eqF, cmp_neF, binD, tru_int, tru_bool, bd_nm, bd_tup, bds_nil, bds_cons, frz, frzV, isNew, bfD, metS, metD, isLst, cmp_eqI, cmp_neI, cmp_ltI, cmp_leI, cmp_gtI, cmp_geI, cmp_isNone, cmp_isNoneT, cmp_notNone, cmp_notNoneT, cmp_notB, cmp_isB, cmp_neB, cmp_eqB, bd_sp, bd_gsp, bd_pkd, items_gsp, rf31, g, minF, c]
  have hD' : items D = some (fr x :: xs.map fr) := hD
  have h0 : ixD D (.int 0) = some (fr x) := ix_at (i := 0) hD rfl
  have hfor : ∃ o', sx ⟨G.refs, G.orc (d + 1)⟩ 0 (.sfor (.nm 2) (.var 0) [.asg (.nm 1) (.ite (.call 31 [(.var 2), (.var 1)]) (.var 2) (.var 1))]) [some (.d D), some (.d (fr x)), none] [] = some (.nx [some (.d D), some (.d (fr (minL (x :: xs)))), o'] []) := by
    obtain ⟨o', e⟩ := key (still (.d D) ((x :: xs).map fr)) (fun _ => trivial) (x :: xs) x none hx (hx x List.mem_cons_self)
    refine ⟨o', ?_⟩
    have e2 : (x :: xs).foldl minF x = minL (x :: xs) := by
      rw [List.foldl_cons, minF_self]
      rfl
    have he : evi ⟨G.refs, G.orc (d + 1)⟩ (.var 0) [some (.d D), some (.d (fr x)), none] [] = some (((x :: xs).map fr, still (.d D) ((x :: xs).map fr)), []) := by
      simp [evi, itV, ev, deref, hD']
    rw [e2] at e
    rw [sx_for, he]
    exact e
  obtain ⟨o', hfor⟩ := hfor
  simp [b33, runFn, sxs_cons, sxs_nil, sx_asg, sx_asgT, sx_alloc, sx_par, sx_if, sx_retV, ret_tup, evn_tup, ret_lst, evn_lst, ret_bin, evn_bin, ret_neg, evn_neg, ret_not, evn_not, ret_cmp, evn_cmp, ret_chain, evn_chain, ret_and, evn_and, ret_or, evn_or, ret_ite, evn_ite, ret_ix, evn_ix, ret_sl, evn_sl, ret_bf, evn_bf, ret_met, evn_met, ret_comp, evn_comp, ret_cst, evn_cst, ret_call, sx_expr, sx_aug, sx_brk, sx_cnt, ev_var, ev_cst, ev_tup, ev_lst, ev_bin, ev_neg, ev_not, ev_cmp, ev_chain, ev_and, ev_or, ev_ite, ev_ix, ev_sl, ev_back, ev_call, ev_bf, ev_met, evn_call, evns, evs, evp, evt, own, setAll, callC, derefs, isRef, op1, op2, dt, vd, vb, Cr.part, intD, deref, items_list, items_tuple, Cr.ixN, ix_tup, ix_list, ix_fr0, ix_fr1, ix_sp0, ix_sp1, ix_gsp0, ix_gsp1, items_fr, items_sp, items_rg, cmp_eqF, cmp_neF, binD, tru_int, tru_bool, bd_nm, bd_tup, bds_nil, bds_cons, frz, frzV, isNew, bfD, metS, metD, isLst, cmp_eqI, cmp_neI, cmp_ltI, cmp_leI, cmp_gtI, cmp_geI, cmp_isNone, cmp_isNoneT, cmp_notNone, cmp_notNoneT, cmp_notB, cmp_isB, cmp_neB, cmp_eqB, bd_sp, bd_gsp, bd_pkd, items_gsp, h0, hfor]
theorem run_law_most (d : Nat) {n : Nat} {D : PyData} {x : Rat} {xs : List Rat} (hD : items D = some ((x :: xs).map fr)) (hx : ∀ y ∈ x :: xs, sz n y) (h : n ≤ 8192) : G.orc (d + 2) 34 [.d D] [] = some (fr (maxL (x :: xs)), false, []) := by
  rw [orc_fn (d + 1) pg34]
  have key : ∀ (g : Store → Prop) (hg : ∀ S, g S) (ys : List Rat) (f : Rat) (o : Option PV), (∀ y ∈ ys, sz n y) → sz n f → ∃ o', forL g (fun (y : PyData) (ρ : Ev) (S : Store) => (bd (.nm 2) y ρ).bind fun ρ1 => sxs ⟨G.refs, G.orc (d + 1)⟩ 0 [.asg (.nm 1) (.ite (.call 31 [(.var 1), (.var 2)]) (.var 2) (.var 1))] ρ1 S) (ys.map fr) [some (.d D), some (.d (fr f)), o] [] = some (.nx [some (.d D), some (.d (fr (ys.foldl maxF f))), o'] []) := by
    intro g hg ys
    induction ys with
    | nil => intro f o _ _; exact ⟨o, forL_nil (hg _)⟩
    | cons y ys ih =>
      intro f o hy hf
      obtain ⟨o', e⟩ := ih (maxF f y) (some (.d (fr y))) (fun z hz => hy z (List.mem_cons_of_mem _ hz)) (by unfold maxF; split; exact hy y List.mem_cons_self; exact hf)
      refine ⟨o', ?_⟩
      rw [List.map_cons, forL_cons (ρ' := [some (.d D), some (.d (fr (maxF f y))), some (.d (fr y))]) (S' := []) (hg _) ?_, e]
      · rfl
      · have g := run_law_below d hf (hy y List.mem_cons_self) h h
        by_cases c : f < y
        · simp [runFn, sxs_cons, sxs_nil, sx_asg, sx_asgT, sx_alloc, sx_par, sx_if, sx_retV, ret_tup, evn_tup, ret_lst, evn_lst, ret_bin, evn_bin, ret_neg, evn_neg, ret_not, evn_not, ret_cmp, evn_cmp, ret_chain, evn_chain, ret_and, evn_and, ret_or, evn_or, ret_ite, evn_ite, ret_ix, evn_ix, ret_sl, evn_sl, ret_bf, evn_bf, ret_met, evn_met, ret_comp, evn_comp, ret_cst, evn_cst, ret_call, sx_expr, sx_aug, sx_brk, sx_cnt, ev_var, ev_cst, ev_tup, ev_lst, ev_bin, ev_neg, ev_not, ev_cmp, ev_chain, ev_and, ev_or, ev_ite, ev_ix, ev_sl, ev_back, ev_call, ev_bf, ev_met, evn_call, evns, evs, evp, evt, own, setAll, callC, derefs, isRef, op1, op2, dt, vd, vb, Cr.part, intD, deref, items_list, items_tuple, Cr.ixN, ix_tup, ix_list, ix_fr0, ix_fr1, ix_sp0, ix_sp1, ix_gsp0, ix_gsp1, items_fr, items_sp, items_rg, cmp_eqF, cmp_neF, binD, tru_int, tru_bool, bd_nm, bd_tup, bds_nil, bds_cons, frz, frzV, isNew, bfD, metS, metD, isLst, cmp_eqI, cmp_neI, cmp_ltI, cmp_leI, cmp_gtI, cmp_geI, cmp_isNone, cmp_isNoneT, cmp_notNone, cmp_notNoneT, cmp_notB, cmp_isB, cmp_neB, cmp_eqB, bd_sp, bd_gsp, bd_pkd, items_gsp, rf31, g, maxF, c]
        · simp [runFn, sxs_cons, sxs_nil, sx_asg, sx_asgT, sx_alloc, sx_par, sx_if, sx_retV, ret_tup, evn_tup, ret_lst, evn_lst, ret_bin, evn_bin, ret_neg, evn_neg, ret_not, evn_not, ret_cmp, evn_cmp, ret_chain, evn_chain, ret_and, evn_and, ret_or, evn_or, ret_ite, evn_ite, ret_ix, evn_ix, ret_sl, evn_sl, ret_bf, evn_bf, ret_met, evn_met, ret_comp, evn_comp, ret_cst, evn_cst, ret_call, sx_expr, sx_aug, sx_brk, sx_cnt, ev_var, ev_cst, ev_tup, ev_lst, ev_bin, ev_neg, ev_not, ev_cmp, ev_chain, ev_and, ev_or, ev_ite, ev_ix, ev_sl, ev_back, ev_call, ev_bf, ev_met, evn_call, evns, evs, evp, evt, own, setAll, callC, derefs, isRef, op1, op2, dt, vd, vb, Cr.part, intD, deref, items_list, items_tuple, Cr.ixN, ix_tup, ix_list, ix_fr0, ix_fr1, ix_sp0, ix_sp1, ix_gsp0, ix_gsp1, items_fr, items_sp, items_rg, cmp_eqF, cmp_neF, binD, tru_int, tru_bool, bd_nm, bd_tup, bds_nil, bds_cons, frz, frzV, isNew, bfD, metS, metD, isLst, cmp_eqI, cmp_neI, cmp_ltI, cmp_leI, cmp_gtI, cmp_geI, cmp_isNone, cmp_isNoneT, cmp_notNone, cmp_notNoneT, cmp_notB, cmp_isB, cmp_neB, cmp_eqB, bd_sp, bd_gsp, bd_pkd, items_gsp, rf31, g, maxF, c]
  have hD' : items D = some (fr x :: xs.map fr) := hD
  have h0 : ixD D (.int 0) = some (fr x) := ix_at (i := 0) hD rfl
  have hfor : ∃ o', sx ⟨G.refs, G.orc (d + 1)⟩ 0 (.sfor (.nm 2) (.var 0) [.asg (.nm 1) (.ite (.call 31 [(.var 1), (.var 2)]) (.var 2) (.var 1))]) [some (.d D), some (.d (fr x)), none] [] = some (.nx [some (.d D), some (.d (fr (maxL (x :: xs)))), o'] []) := by
    obtain ⟨o', e⟩ := key (still (.d D) ((x :: xs).map fr)) (fun _ => trivial) (x :: xs) x none hx (hx x List.mem_cons_self)
    refine ⟨o', ?_⟩
    have e2 : (x :: xs).foldl maxF x = maxL (x :: xs) := by
      rw [List.foldl_cons, maxF_self]
      rfl
    have he : evi ⟨G.refs, G.orc (d + 1)⟩ (.var 0) [some (.d D), some (.d (fr x)), none] [] = some (((x :: xs).map fr, still (.d D) ((x :: xs).map fr)), []) := by
      simp [evi, itV, ev, deref, hD']
    rw [e2] at e
    rw [sx_for, he]
    exact e
  obtain ⟨o', hfor⟩ := hfor
  simp [b34, runFn, sxs_cons, sxs_nil, sx_asg, sx_asgT, sx_alloc, sx_par, sx_if, sx_retV, ret_tup, evn_tup, ret_lst, evn_lst, ret_bin, evn_bin, ret_neg, evn_neg, ret_not, evn_not, ret_cmp, evn_cmp, ret_chain, evn_chain, ret_and, evn_and, ret_or, evn_or, ret_ite, evn_ite, ret_ix, evn_ix, ret_sl, evn_sl, ret_bf, evn_bf, ret_met, evn_met, ret_comp, evn_comp, ret_cst, evn_cst, ret_call, sx_expr, sx_aug, sx_brk, sx_cnt, ev_var, ev_cst, ev_tup, ev_lst, ev_bin, ev_neg, ev_not, ev_cmp, ev_chain, ev_and, ev_or, ev_ite, ev_ix, ev_sl, ev_back, ev_call, ev_bf, ev_met, evn_call, evns, evs, evp, evt, own, setAll, callC, derefs, isRef, op1, op2, dt, vd, vb, Cr.part, intD, deref, items_list, items_tuple, Cr.ixN, ix_tup, ix_list, ix_fr0, ix_fr1, ix_sp0, ix_sp1, ix_gsp0, ix_gsp1, items_fr, items_sp, items_rg, cmp_eqF, cmp_neF, binD, tru_int, tru_bool, bd_nm, bd_tup, bds_nil, bds_cons, frz, frzV, isNew, bfD, metS, metD, isLst, cmp_eqI, cmp_neI, cmp_ltI, cmp_leI, cmp_gtI, cmp_geI, cmp_isNone, cmp_isNoneT, cmp_notNone, cmp_notNoneT, cmp_notB, cmp_isB, cmp_neB, cmp_eqB, bd_sp, bd_gsp, bd_pkd, items_gsp, h0, hfor]
/-! ### sights -/
theorem run_spot_of (d : Nat) {n k : Nat} {r : List Pt} {i : Nat} {t : Rat} {a b : Pt} (ha : r[i]? = some a) (hb : r[i + 1]? = some b) (za : szp n a) (zb : szp n b) (zt : sz k t) (h : 3 * n + k + 2 ≤ 8192) : G.orc (d + 6) 16 [.d (rg r), .d (gsp (i, t))] [] = some (sp (mid a b t), false, []) := by
  rw [orc_fn (d + 5) pg16]
  have f := run_spot_between d za zb zt (by omega)
  simp [b16, runFn, sxs_cons, sxs_nil, sx_asg, sx_asgT, sx_alloc, sx_par, sx_if, sx_retV, ret_tup, evn_tup, ret_lst, evn_lst, ret_bin, evn_bin, ret_neg, evn_neg, ret_not, evn_not, ret_cmp, evn_cmp, ret_chain, evn_chain, ret_and, evn_and, ret_or, evn_or, ret_ite, evn_ite, ret_ix, evn_ix, ret_sl, evn_sl, ret_bf, evn_bf, ret_met, evn_met, ret_comp, evn_comp, ret_cst, evn_cst, ret_call, sx_expr, sx_aug, sx_brk, sx_cnt, ev_var, ev_cst, ev_tup, ev_lst, ev_bin, ev_neg, ev_not, ev_cmp, ev_chain, ev_and, ev_or, ev_ite, ev_ix, ev_sl, ev_back, ev_call, ev_bf, ev_met, evn_call, evns, evs, evp, evt, own, setAll, callC, derefs, isRef, op1, op2, dt, vd, vb, Cr.part, intD, deref, items_list, items_tuple, Cr.ixN, ix_tup, ix_list, ix_fr0, ix_fr1, ix_sp0, ix_sp1, ix_gsp0, ix_gsp1, items_fr, items_sp, items_rg, cmp_eqF, cmp_neF, binD, tru_int, tru_bool, bd_nm, bd_tup, bds_nil, bds_cons, frz, frzV, isNew, bfD, metS, metD, isLst, cmp_eqI, cmp_neI, cmp_ltI, cmp_leI, cmp_gtI, cmp_geI, cmp_isNone, cmp_isNoneT, cmp_notNone, cmp_notNoneT, cmp_notB, cmp_isB, cmp_neB, cmp_eqB, bd_sp, bd_gsp, bd_pkd, items_gsp, rf0, rf1, rf2, rf3, rf4, rf5, rf6, rf7, rf8, rf9, rf10, rf11, rf12, rf13, rf14, rf15, rf16, rf17, rf18, rf19, rf20, rf21, rf22, rf23, rf24, rf25, rf26, rf27, rf28, rf29, rf30, rf31, rf32, rf33, rf34, rf35, rf36, rf37, rf38, rf39, rf40, rf41, rf42, rf43, rf44, rf45, rg_at ha, rg_at1 hb, f]
theorem run_line_of (d : Nat) {r : List Pt} {a b : Pt} (ha : r.head? = some a) (hb : r.getLast? = some b) : G.orc (d + 1) 17 [.d (rg r)] [] = some (sp (a.1, b.1), false, []) := by
  rw [orc_fn d pg17]
  simp [b17, runFn, sxs_cons, sxs_nil, sx_asg, sx_asgT, sx_alloc, sx_par, sx_if, sx_retV, ret_tup, evn_tup, ret_lst, evn_lst, ret_bin, evn_bin, ret_neg, evn_neg, ret_not, evn_not, ret_cmp, evn_cmp, ret_chain, evn_chain, ret_and, evn_and, ret_or, evn_or, ret_ite, evn_ite, ret_ix, evn_ix, ret_sl, evn_sl, ret_bf, evn_bf, ret_met, evn_met, ret_comp, evn_comp, ret_cst, evn_cst, ret_call, sx_expr, sx_aug, sx_brk, sx_cnt, ev_var, ev_cst, ev_tup, ev_lst, ev_bin, ev_neg, ev_not, ev_cmp, ev_chain, ev_and, ev_or, ev_ite, ev_ix, ev_sl, ev_back, ev_call, ev_bf, ev_met, evn_call, evns, evs, evp, evt, own, setAll, callC, derefs, isRef, op1, op2, dt, vd, vb, Cr.part, intD, deref, items_list, items_tuple, Cr.ixN, ix_tup, ix_list, ix_fr0, ix_fr1, ix_sp0, ix_sp1, ix_gsp0, ix_gsp1, items_fr, items_sp, items_rg, cmp_eqF, cmp_neF, binD, tru_int, tru_bool, bd_nm, bd_tup, bds_nil, bds_cons, frz, frzV, isNew, bfD, metS, metD, isLst, cmp_eqI, cmp_neI, cmp_ltI, cmp_leI, cmp_gtI, cmp_geI, cmp_isNone, cmp_isNoneT, cmp_notNone, cmp_notNoneT, cmp_notB, cmp_isB, cmp_neB, cmp_eqB, bd_sp, bd_gsp, bd_pkd, items_gsp, rg_head ha, rg_last hb, line, sp_fold]
def barW (lo hi h x : Rat) (s c : Pt) : Bool := decide (lo < c.1) && decide (c.1 < hi) && decide (hgt (x, h) s c.1 < c.2)
theorem run_barring (d : Nat) {n k q m : Nat} {r : List Pt} {i : Nat} {t h x : Rat} {a b : Pt} (ha : r[i]? = some a) (hb : r[i + 1]? = some b) (zr : ∀ c ∈ r, szp n c) (zt : sz k t) (zh : sz q h) (zx : sz m x) (hr : r.length ≤ 1000) (h1 : 20 * n + 2 * k + 4 * q + 4 * m + 50 ≤ 8192) :
    G.orc (d + 7) 20 [.d (rg r), .d (fr h), .d (fr x), .d (gsp (i, t))] [] = some (.tuple ((bars r h x (mid a b t)).map fun j : Nat => .int (j : Int)), false, []) := by
  rw [orc_fn (d + 6) pg20]
  have za := zr a (List.mem_of_getElem? ha)
  have zb := zr b (List.mem_of_getElem? hb)
  have zs := sz_mid za zb zt
  have f0 := run_spot_of d ha hb za zb zt (by omega)
  generalize hs : mid a b t = s at zs f0 ⊢
  have f1 := run_compared (d + 5) zx zs.1 (by omega) (by omega)
  by_cases e0 : x = s.1
  · rw [if_pos e0] at f1
    have eb : bars r h x s = [] := by simp [bars, e0]
    simp [b20, runFn, sxs_cons, sxs_nil, sx_asg, sx_asgT, sx_alloc, sx_par, sx_if, sx_retV, ret_tup, evn_tup, ret_lst, evn_lst, ret_bin, evn_bin, ret_neg, evn_neg, ret_not, evn_not, ret_cmp, evn_cmp, ret_chain, evn_chain, ret_and, evn_and, ret_or, evn_or, ret_ite, evn_ite, ret_ix, evn_ix, ret_sl, evn_sl, ret_bf, evn_bf, ret_met, evn_met, ret_comp, evn_comp, ret_cst, evn_cst, ret_call, sx_expr, sx_aug, sx_brk, sx_cnt, ev_var, ev_cst, ev_tup, ev_lst, ev_bin, ev_neg, ev_not, ev_cmp, ev_chain, ev_and, ev_or, ev_ite, ev_ix, ev_sl, ev_back, ev_call, ev_bf, ev_met, evn_call, evns, evs, evp, evt, own, setAll, callC, derefs, isRef, op1, op2, dt, vd, vb, Cr.part, intD, deref, items_list, items_tuple, Cr.ixN, ix_tup, ix_list, ix_fr0, ix_fr1, ix_sp0, ix_sp1, ix_gsp0, ix_gsp1, items_fr, items_sp, items_rg, cmp_eqF, cmp_neF, binD, tru_int, tru_bool, bd_nm, bd_tup, bds_nil, bds_cons, frz, frzV, isNew, bfD, metS, metD, isLst, cmp_eqI, cmp_neI, cmp_ltI, cmp_leI, cmp_gtI, cmp_geI, cmp_isNone, cmp_isNoneT, cmp_notNone, cmp_notNoneT, cmp_notB, cmp_isB, cmp_neB, cmp_eqB, bd_sp, bd_gsp, bd_pkd, items_gsp, rf0, rf1, rf2, rf3, rf4, rf5, rf6, rf7, rf8, rf9, rf10, rf11, rf12, rf13, rf14, rf15, rf16, rf17, rf18, rf19, rf20, rf21, rf22, rf23, rf24, rf25, rf26, rf27, rf28, rf29, rf30, rf31, rf32, rf33, rf34, rf35, rf36, rf37, rf38, rf39, rf40, rf41, rf42, rf43, rf44, rf45, f0, f1, line, eb, sp_fold]
  · rw [if_neg e0] at f1
    have hd0 : s.1 - x ≠ 0 := by grind
    have zxh : szp (m + q) (x, h) := ⟨zx.mono (by omega), zh.mono (by omega)⟩
    have key : ∀ (lo hi : Rat) (g : Store → Prop) (hg : ∀ S, g S) (cs : List Pt) (j : Nat) (acc : List PyData) (o9 o10 : Option PV), (∀ c ∈ cs, szp n c) → sz (m + (3 * n + k + 2)) lo → sz (m + (3 * n + k + 2)) hi → acc.length + cs.length ≤ 1000 →
        ∃ p9 p10, forL g (fun (y : PyData) (ρ : Ev) (S : Store) => (bd (.tup [(.nm 9), (.nm 10)]) y ρ).bind fun ρ1 => sxs ⟨G.refs, G.orc (d + 6)⟩ 0 [.sif (.and (.call 19 [(.var 6), (.ix (.var 10) (.cst (.int 0)))]) (.call 19 [(.ix (.var 10) (.cst (.int 0))), (.var 7)])) [.sif (.call 19 [(.call 12 [(.var 4), (.var 5), (.ix (.var 10) (.cst (.int 0)))]), (.ix (.var 10) (.cst (.int 1)))]) [.expr (.met .append (.var 8) [(.var 9)])] []] []] ρ1 S) (enumL j (cs.map sp))
          [some (.d (rg r)), some (.d (fr h)), some (.d (fr x)), some (.d (gsp (i, t))), some (.d (sp (x, h))), some (.d (sp s)), some (.d (fr lo)), some (.d (fr hi)), some (.r 0), o9, o10] [.lst acc] =
          some (.nx [some (.d (rg r)), some (.d (fr h)), some (.d (fr x)), some (.d (gsp (i, t))), some (.d (sp (x, h))), some (.d (sp s)), some (.d (fr lo)), some (.d (fr hi)), some (.r 0), p9, p10] [.lst (acc ++ (idxs (barW lo hi h x s) j cs).map fun j : Nat => .int (j : Int))]) := by
      intro lo hi g hg cs
      induction cs with
      | nil => intro j acc o9 o10 _ _ _ _; exact ⟨o9, o10, by simp [enumL, forL_nil (hg _), idxs]⟩
      | cons c cs ih =>
        intro j acc o9 o10 hc zl zi hl
        have zc := hc c List.mem_cons_self
        have g1 := run_under (d + 4) zl zc.1 (by omega) (by omega)
        have g2 := run_under (d + 4) zc.1 zi (by omega) (by omega)
        have g3 := run_height_at (d + 1) zxh zs zc.1 hd0 (by omega)
        have g4 := run_under (d + 4) (sz_hgt zxh zs zc.1 hd0) zc.2 (by omega) (by omega)
        simp only [List.length_cons] at hl
        by_cases c1 : barW lo hi h x s c = true
        · obtain ⟨p9, p10, e⟩ := ih (j + 1) (acc ++ [.int (j : Int)]) (some (.d (.int (j : Int)))) (some (.d (sp c))) (fun z hz => hc z (List.mem_cons_of_mem _ hz)) zl zi (by simp; omega)
          refine ⟨p9, p10, ?_⟩
          have c1' := c1
          simp only [barW, Bool.and_eq_true, decide_eq_true_eq] at c1'
          obtain ⟨⟨q1, q2⟩, q3⟩ := c1'
          rw [List.map_cons]
          show forL g _ (.tuple [.int (j : Int), sp c] :: enumL (j + 1) (cs.map sp)) _ _ = _
          rw [forL_cons (hg _) (ρ' := [some (.d (rg r)), some (.d (fr h)), some (.d (fr x)), some (.d (gsp (i, t))), some (.d (sp (x, h))), some (.d (sp s)), some (.d (fr lo)), some (.d (fr hi)), some (.r 0), some (.d (.int (j : Int))), some (.d (sp c))]) (S' := [.lst (acc ++ [.int (j : Int)])]) ?_, e]
          · simp [idxs, c1]
          · have hl' : acc.length < line := by show acc.length < 16777216; omega
            simp [runFn, sxs_cons, sxs_nil, sx_asg, sx_asgT, sx_alloc, sx_par, sx_if, sx_retV, ret_tup, evn_tup, ret_lst, evn_lst, ret_bin, evn_bin, ret_neg, evn_neg, ret_not, evn_not, ret_cmp, evn_cmp, ret_chain, evn_chain, ret_and, evn_and, ret_or, evn_or, ret_ite, evn_ite, ret_ix, evn_ix, ret_sl, evn_sl, ret_bf, evn_bf, ret_met, evn_met, ret_comp, evn_comp, ret_cst, evn_cst, ret_call, sx_expr, sx_aug, sx_brk, sx_cnt, ev_var, ev_cst, ev_tup, ev_lst, ev_bin, ev_neg, ev_not, ev_cmp, ev_chain, ev_and, ev_or, ev_ite, ev_ix, ev_sl, ev_back, ev_call, ev_bf, ev_met, evn_call, evns, evs, evp, evt, own, setAll, callC, derefs, isRef, op1, op2, dt, vd, vb, Cr.part, intD, deref, items_list, items_tuple, Cr.ixN, ix_tup, ix_list, ix_fr0, ix_fr1, ix_sp0, ix_sp1, ix_gsp0, ix_gsp1, items_fr, items_sp, items_rg, cmp_eqF, cmp_neF, binD, tru_int, tru_bool, bd_nm, bd_tup, bds_nil, bds_cons, frz, frzV, isNew, bfD, metS, metD, isLst, cmp_eqI, cmp_neI, cmp_ltI, cmp_leI, cmp_gtI, cmp_geI, cmp_isNone, cmp_isNoneT, cmp_notNone, cmp_notNoneT, cmp_notB, cmp_isB, cmp_neB, cmp_eqB, bd_sp, bd_gsp, bd_pkd, items_gsp, rf0, rf1, rf2, rf3, rf4, rf5, rf6, rf7, rf8, rf9, rf10, rf11, rf12, rf13, rf14, rf15, rf16, rf17, rf18, rf19, rf20, rf21, rf22, rf23, rf24, rf25, rf26, rf27, rf28, rf29, rf30, rf31, rf32, rf33, rf34, rf35, rf36, rf37, rf38, rf39, rf40, rf41, rf42, rf43, rf44, rf45, g1, g2, g3, g4, q1, q2, q3, hl']
        · obtain ⟨p9, p10, e⟩ := ih (j + 1) acc (some (.d (.int (j : Int)))) (some (.d (sp c))) (fun z hz => hc z (List.mem_cons_of_mem _ hz)) zl zi (by omega)
          refine ⟨p9, p10, ?_⟩
          rw [List.map_cons]
          show forL g _ (.tuple [.int (j : Int), sp c] :: enumL (j + 1) (cs.map sp)) _ _ = _
          rw [forL_cons (hg _) (ρ' := [some (.d (rg r)), some (.d (fr h)), some (.d (fr x)), some (.d (gsp (i, t))), some (.d (sp (x, h))), some (.d (sp s)), some (.d (fr lo)), some (.d (fr hi)), some (.r 0), some (.d (.int (j : Int))), some (.d (sp c))]) (S' := [.lst acc]) ?_, e]
          · simp [idxs, c1]
          · by_cases q1 : lo < c.1
            · by_cases q2 : c.1 < hi
              · have q3 : ¬ hgt (x, h) s c.1 < c.2 := fun q3 => c1 (by simp [barW, q1, q2, q3])
                simp [runFn, sxs_cons, sxs_nil, sx_asg, sx_asgT, sx_alloc, sx_par, sx_if, sx_retV, ret_tup, evn_tup, ret_lst, evn_lst, ret_bin, evn_bin, ret_neg, evn_neg, ret_not, evn_not, ret_cmp, evn_cmp, ret_chain, evn_chain, ret_and, evn_and, ret_or, evn_or, ret_ite, evn_ite, ret_ix, evn_ix, ret_sl, evn_sl, ret_bf, evn_bf, ret_met, evn_met, ret_comp, evn_comp, ret_cst, evn_cst, ret_call, sx_expr, sx_aug, sx_brk, sx_cnt, ev_var, ev_cst, ev_tup, ev_lst, ev_bin, ev_neg, ev_not, ev_cmp, ev_chain, ev_and, ev_or, ev_ite, ev_ix, ev_sl, ev_back, ev_call, ev_bf, ev_met, evn_call, evns, evs, evp, evt, own, setAll, callC, derefs, isRef, op1, op2, dt, vd, vb, Cr.part, intD, deref, items_list, items_tuple, Cr.ixN, ix_tup, ix_list, ix_fr0, ix_fr1, ix_sp0, ix_sp1, ix_gsp0, ix_gsp1, items_fr, items_sp, items_rg, cmp_eqF, cmp_neF, binD, tru_int, tru_bool, bd_nm, bd_tup, bds_nil, bds_cons, frz, frzV, isNew, bfD, metS, metD, isLst, cmp_eqI, cmp_neI, cmp_ltI, cmp_leI, cmp_gtI, cmp_geI, cmp_isNone, cmp_isNoneT, cmp_notNone, cmp_notNoneT, cmp_notB, cmp_isB, cmp_neB, cmp_eqB, bd_sp, bd_gsp, bd_pkd, items_gsp, rf0, rf1, rf2, rf3, rf4, rf5, rf6, rf7, rf8, rf9, rf10, rf11, rf12, rf13, rf14, rf15, rf16, rf17, rf18, rf19, rf20, rf21, rf22, rf23, rf24, rf25, rf26, rf27, rf28, rf29, rf30, rf31, rf32, rf33, rf34, rf35, rf36, rf37, rf38, rf39, rf40, rf41, rf42, rf43, rf44, rf45, g1, g2, g3, g4, q1, q2, q3]
              · simp [runFn, sxs_cons, sxs_nil, sx_asg, sx_asgT, sx_alloc, sx_par, sx_if, sx_retV, ret_tup, evn_tup, ret_lst, evn_lst, ret_bin, evn_bin, ret_neg, evn_neg, ret_not, evn_not, ret_cmp, evn_cmp, ret_chain, evn_chain, ret_and, evn_and, ret_or, evn_or, ret_ite, evn_ite, ret_ix, evn_ix, ret_sl, evn_sl, ret_bf, evn_bf, ret_met, evn_met, ret_comp, evn_comp, ret_cst, evn_cst, ret_call, sx_expr, sx_aug, sx_brk, sx_cnt, ev_var, ev_cst, ev_tup, ev_lst, ev_bin, ev_neg, ev_not, ev_cmp, ev_chain, ev_and, ev_or, ev_ite, ev_ix, ev_sl, ev_back, ev_call, ev_bf, ev_met, evn_call, evns, evs, evp, evt, own, setAll, callC, derefs, isRef, op1, op2, dt, vd, vb, Cr.part, intD, deref, items_list, items_tuple, Cr.ixN, ix_tup, ix_list, ix_fr0, ix_fr1, ix_sp0, ix_sp1, ix_gsp0, ix_gsp1, items_fr, items_sp, items_rg, cmp_eqF, cmp_neF, binD, tru_int, tru_bool, bd_nm, bd_tup, bds_nil, bds_cons, frz, frzV, isNew, bfD, metS, metD, isLst, cmp_eqI, cmp_neI, cmp_ltI, cmp_leI, cmp_gtI, cmp_geI, cmp_isNone, cmp_isNoneT, cmp_notNone, cmp_notNoneT, cmp_notB, cmp_isB, cmp_neB, cmp_eqB, bd_sp, bd_gsp, bd_pkd, items_gsp, rf0, rf1, rf2, rf3, rf4, rf5, rf6, rf7, rf8, rf9, rf10, rf11, rf12, rf13, rf14, rf15, rf16, rf17, rf18, rf19, rf20, rf21, rf22, rf23, rf24, rf25, rf26, rf27, rf28, rf29, rf30, rf31, rf32, rf33, rf34, rf35, rf36, rf37, rf38, rf39, rf40, rf41, rf42, rf43, rf44, rf45, g1, g2, q1, q2]
            · simp [runFn, sxs_cons, sxs_nil, sx_asg, sx_asgT, sx_alloc, sx_par, sx_if, sx_retV, ret_tup, evn_tup, ret_lst, evn_lst, ret_bin, evn_bin, ret_neg, evn_neg, ret_not, evn_not, ret_cmp, evn_cmp, ret_chain, evn_chain, ret_and, evn_and, ret_or, evn_or, ret_ite, evn_ite, ret_ix, evn_ix, ret_sl, evn_sl, ret_bf, evn_bf, ret_met, evn_met, ret_comp, evn_comp, ret_cst, evn_cst, ret_call, sx_expr, sx_aug, sx_brk, sx_cnt, ev_var, ev_cst, ev_tup, ev_lst, ev_bin, ev_neg, ev_not, ev_cmp, ev_chain, ev_and, ev_or, ev_ite, ev_ix, ev_sl, ev_back, ev_call, ev_bf, ev_met, evn_call, evns, evs, evp, evt, own, setAll, callC, derefs, isRef, op1, op2, dt, vd, vb, Cr.part, intD, deref, items_list, items_tuple, Cr.ixN, ix_tup, ix_list, ix_fr0, ix_fr1, ix_sp0, ix_sp1, ix_gsp0, ix_gsp1, items_fr, items_sp, items_rg, cmp_eqF, cmp_neF, binD, tru_int, tru_bool, bd_nm, bd_tup, bds_nil, bds_cons, frz, frzV, isNew, bfD, metS, metD, isLst, cmp_eqI, cmp_neI, cmp_ltI, cmp_leI, cmp_gtI, cmp_geI, cmp_isNone, cmp_isNoneT, cmp_notNone, cmp_notNoneT, cmp_notB, cmp_isB, cmp_neB, cmp_eqB, bd_sp, bd_gsp, bd_pkd, items_gsp, rf0, rf1, rf2, rf3, rf4, rf5, rf6, rf7, rf8, rf9, rf10, rf11, rf12, rf13, rf14, rf15, rf16, rf17, rf18, rf19, rf20, rf21, rf22, rf23, rf24, rf25, rf26, rf27, rf28, rf29, rf30, rf31, rf32, rf33, rf34, rf35, rf36, rf37, rf38, rf39, rf40, rf41, rf42, rf43, rf44, rf45, g1, q1]
    have f2 := run_under (d + 4) zx zs.1 (by omega) (by omega)
    have loopr : ∀ lo hi : Rat, sz (m + (3 * n + k + 2)) lo → sz (m + (3 * n + k + 2)) hi → ∃ p9 p10, sx ⟨G.refs, G.orc (d + 6)⟩ 0 (.sfor (.tup [(.nm 9), (.nm 10)]) (.enm (.var 0)) [.sif (.and (.call 19 [(.var 6), (.ix (.var 10) (.cst (.int 0)))]) (.call 19 [(.ix (.var 10) (.cst (.int 0))), (.var 7)])) [.sif (.call 19 [(.call 12 [(.var 4), (.var 5), (.ix (.var 10) (.cst (.int 0)))]), (.ix (.var 10) (.cst (.int 1)))]) [.expr (.met .append (.var 8) [(.var 9)])] []] []]) [some (.d (rg r)), some (.d (fr h)), some (.d (fr x)), some (.d (gsp (i, t))), some (.d (sp (x, h))), some (.d (sp s)), some (.d (fr lo)), some (.d (fr hi)), some (.r 0), none, none] [.lst []] =
        some (.nx [some (.d (rg r)), some (.d (fr h)), some (.d (fr x)), some (.d (gsp (i, t))), some (.d (sp (x, h))), some (.d (sp s)), some (.d (fr lo)), some (.d (fr hi)), some (.r 0), p9, p10] [.lst ((idxs (barW lo hi h x s) 0 r).map fun j : Nat => .int (j : Int))]) := by
      intro lo hi zl zi
      obtain ⟨p9, p10, e⟩ := key lo hi (still (.d (rg r)) (r.map sp)) (fun _ => trivial) r 0 [] none none zr zl zi (by simpa using hr)
      refine ⟨p9, p10, ?_⟩
      have he : evi ⟨G.refs, G.orc (d + 6)⟩ (.enm (.var 0)) [some (.d (rg r)), some (.d (fr h)), some (.d (fr x)), some (.d (gsp (i, t))), some (.d (sp (x, h))), some (.d (sp s)), some (.d (fr lo)), some (.d (fr hi)), some (.r 0), none, none] [.lst []] = some ((enumL 0 (r.map sp), still (.d (rg r)) (r.map sp)), [.lst []]) := by
        simp [evi, itE, ev, deref, items_rg]
      rw [sx_for, he]
      exact e
    by_cases c : x < s.1
    · obtain ⟨p9, p10, hfor⟩ := loopr x s.1 (zx.mono (by omega)) (zs.1.mono (by omega))
      have c2 : ¬ s.1 < x := by grind
      rw [if_neg c2] at f1
      have eb : bars r h x s = idxs (barW x s.1 h x s) 0 r := by
        unfold bars
        rw [if_neg e0]
        congr 1
        funext z
        simp [barC, barW, c]
      simp [b20, runFn, sxs_cons, sxs_nil, sx_asg, sx_asgT, sx_alloc, sx_par, sx_if, sx_retV, ret_tup, evn_tup, ret_lst, evn_lst, ret_bin, evn_bin, ret_neg, evn_neg, ret_not, evn_not, ret_cmp, evn_cmp, ret_chain, evn_chain, ret_and, evn_and, ret_or, evn_or, ret_ite, evn_ite, ret_ix, evn_ix, ret_sl, evn_sl, ret_bf, evn_bf, ret_met, evn_met, ret_comp, evn_comp, ret_cst, evn_cst, ret_call, sx_expr, sx_aug, sx_brk, sx_cnt, ev_var, ev_cst, ev_tup, ev_lst, ev_bin, ev_neg, ev_not, ev_cmp, ev_chain, ev_and, ev_or, ev_ite, ev_ix, ev_sl, ev_back, ev_call, ev_bf, ev_met, evn_call, evns, evs, evp, evt, own, setAll, callC, derefs, isRef, op1, op2, dt, vd, vb, Cr.part, intD, deref, items_list, items_tuple, Cr.ixN, ix_tup, ix_list, ix_fr0, ix_fr1, ix_sp0, ix_sp1, ix_gsp0, ix_gsp1, items_fr, items_sp, items_rg, cmp_eqF, cmp_neF, binD, tru_int, tru_bool, bd_nm, bd_tup, bds_nil, bds_cons, frz, frzV, isNew, bfD, metS, metD, isLst, cmp_eqI, cmp_neI, cmp_ltI, cmp_leI, cmp_gtI, cmp_geI, cmp_isNone, cmp_isNoneT, cmp_notNone, cmp_notNoneT, cmp_notB, cmp_isB, cmp_neB, cmp_eqB, bd_sp, bd_gsp, bd_pkd, items_gsp, rf0, rf1, rf2, rf3, rf4, rf5, rf6, rf7, rf8, rf9, rf10, rf11, rf12, rf13, rf14, rf15, rf16, rf17, rf18, rf19, rf20, rf21, rf22, rf23, rf24, rf25, rf26, rf27, rf28, rf29, rf30, rf31, rf32, rf33, rf34, rf35, rf36, rf37, rf38, rf39, rf40, rf41, rf42, rf43, rf44, rf45, f0, f1, f2, c, hfor, line, sp_fold, eb]
    · have c2 : s.1 < x := by grind
      obtain ⟨p9, p10, hfor⟩ := loopr s.1 x (zs.1.mono (by omega)) (zx.mono (by omega))
      rw [if_pos c2] at f1
      have eb : bars r h x s = idxs (barW s.1 x h x s) 0 r := by
        unfold bars
        rw [if_neg e0]
        congr 1
        funext z
        simp [barC, barW, c]
      simp [b20, runFn, sxs_cons, sxs_nil, sx_asg, sx_asgT, sx_alloc, sx_par, sx_if, sx_retV, ret_tup, evn_tup, ret_lst, evn_lst, ret_bin, evn_bin, ret_neg, evn_neg, ret_not, evn_not, ret_cmp, evn_cmp, ret_chain, evn_chain, ret_and, evn_and, ret_or, evn_or, ret_ite, evn_ite, ret_ix, evn_ix, ret_sl, evn_sl, ret_bf, evn_bf, ret_met, evn_met, ret_comp, evn_comp, ret_cst, evn_cst, ret_call, sx_expr, sx_aug, sx_brk, sx_cnt, ev_var, ev_cst, ev_tup, ev_lst, ev_bin, ev_neg, ev_not, ev_cmp, ev_chain, ev_and, ev_or, ev_ite, ev_ix, ev_sl, ev_back, ev_call, ev_bf, ev_met, evn_call, evns, evs, evp, evt, own, setAll, callC, derefs, isRef, op1, op2, dt, vd, vb, Cr.part, intD, deref, items_list, items_tuple, Cr.ixN, ix_tup, ix_list, ix_fr0, ix_fr1, ix_sp0, ix_sp1, ix_gsp0, ix_gsp1, items_fr, items_sp, items_rg, cmp_eqF, cmp_neF, binD, tru_int, tru_bool, bd_nm, bd_tup, bds_nil, bds_cons, frz, frzV, isNew, bfD, metS, metD, isLst, cmp_eqI, cmp_neI, cmp_ltI, cmp_leI, cmp_gtI, cmp_geI, cmp_isNone, cmp_isNoneT, cmp_notNone, cmp_notNoneT, cmp_notB, cmp_isB, cmp_neB, cmp_eqB, bd_sp, bd_gsp, bd_pkd, items_gsp, rf0, rf1, rf2, rf3, rf4, rf5, rf6, rf7, rf8, rf9, rf10, rf11, rf12, rf13, rf14, rf15, rf16, rf17, rf18, rf19, rf20, rf21, rf22, rf23, rf24, rf25, rf26, rf27, rf28, rf29, rf30, rf31, rf32, rf33, rf34, rf35, rf36, rf37, rf38, rf39, rf40, rf41, rf42, rf43, rf44, rf45, f0, f1, f2, c, hfor, line, sp_fold, eb]
theorem run_sees (d : Nat) {n k q m : Nat} {r : List Pt} {i : Nat} {t h x : Rat} {a b : Pt} (ha : r[i]? = some a) (hb : r[i + 1]? = some b) (zr : ∀ c ∈ r, szp n c) (zt : sz k t) (zh : sz q h) (zx : sz m x) (hr : r.length ≤ 1000) (h1 : 20 * n + 2 * k + 4 * q + 4 * m + 50 ≤ 8192) :
    G.orc (d + 8) 21 [.d (rg r), .d (fr h), .d (fr x), .d (gsp (i, t))] [] = some (.bool (seesB r h x (mid a b t)), false, []) := by
  rw [orc_fn (d + 7) pg21]
  have f := run_barring d ha hb zr zt zh zx hr h1
  simp [b21, runFn, sxs_cons, sxs_nil, sx_asg, sx_asgT, sx_alloc, sx_par, sx_if, sx_retV, ret_tup, evn_tup, ret_lst, evn_lst, ret_bin, evn_bin, ret_neg, evn_neg, ret_not, evn_not, ret_cmp, evn_cmp, ret_chain, evn_chain, ret_and, evn_and, ret_or, evn_or, ret_ite, evn_ite, ret_ix, evn_ix, ret_sl, evn_sl, ret_bf, evn_bf, ret_met, evn_met, ret_comp, evn_comp, ret_cst, evn_cst, ret_call, sx_expr, sx_aug, sx_brk, sx_cnt, ev_var, ev_cst, ev_tup, ev_lst, ev_bin, ev_neg, ev_not, ev_cmp, ev_chain, ev_and, ev_or, ev_ite, ev_ix, ev_sl, ev_back, ev_call, ev_bf, ev_met, evn_call, evns, evs, evp, evt, own, setAll, callC, derefs, isRef, op1, op2, dt, vd, vb, Cr.part, intD, deref, items_list, items_tuple, Cr.ixN, ix_tup, ix_list, ix_fr0, ix_fr1, ix_sp0, ix_sp1, ix_gsp0, ix_gsp1, items_fr, items_sp, items_rg, cmp_eqF, cmp_neF, binD, tru_int, tru_bool, bd_nm, bd_tup, bds_nil, bds_cons, frz, frzV, isNew, bfD, metS, metD, isLst, cmp_eqI, cmp_neI, cmp_ltI, cmp_leI, cmp_gtI, cmp_geI, cmp_isNone, cmp_isNoneT, cmp_notNone, cmp_notNoneT, cmp_notB, cmp_isB, cmp_neB, cmp_eqB, bd_sp, bd_gsp, bd_pkd, items_gsp, rf0, rf1, rf2, rf3, rf4, rf5, rf6, rf7, rf8, rf9, rf10, rf11, rf12, rf13, rf14, rf15, rf16, rf17, rf18, rf19, rf20, rf21, rf22, rf23, rf24, rf25, rf26, rf27, rf28, rf29, rf30, rf31, rf32, rf33, rf34, rf35, rf36, rf37, rf38, rf39, rf40, rf41, rf42, rf43, rf44, rf45, f, line, cmp_eq_nil, seesB]
/-! ### reaches -/
theorem run_sight_places (d : Nat) {n k q : Nat} {r : List Pt} {i : Nat} {t h : Rat} {a b : Pt} (ha : r[i]? = some a) (hb : r[i + 1]? = some b) (zr : ∀ c ∈ r, szp n c) (zt : sz k t) (zh : sz q h) (hr : r.length ≤ 1000) (h1 : 20 * n + 4 * k + 4 * q + 50 ≤ 8192) :
    G.orc (d + 7) 23 [.d (rg r), .d (fr h), .d (gsp (i, t))] [] = some (.tuple [.list ((plcI (leftC (mid a b t)) (mid a b t) h 0 r).map pkd), .list ((plcI (rightC (mid a b t)) (mid a b t) h 0 r).map pkd)], false, []) := by
  rw [orc_fn (d + 6) pg23]
  have za := zr a (List.mem_of_getElem? ha)
  have zb := zr b (List.mem_of_getElem? hb)
  have zs := sz_mid za zb zt
  have f0 := run_spot_of d ha hb za zb zt (by omega)
  generalize hs : mid a b t = s at zs f0 ⊢
  have key : ∀ (g : Store → Prop) (hg : ∀ S, g S) (cs : List Pt) (j : Nat) (A B : List PyData) (o6 o7 : Option PV), (∀ c ∈ cs, szp n c) → A.length + cs.length ≤ 1000 → B.length + cs.length ≤ 1000 →
      ∃ p6 p7, forL g (fun (y : PyData) (ρ : Ev) (S : Store) => (bd (.tup [(.nm 6), (.nm 7)]) y ρ).bind fun ρ1 => sxs ⟨G.refs, G.orc (d + 6)⟩ 0 [.sif (.call 19 [(.ix (.var 3) (.cst (.int 1))), (.ix (.var 7) (.cst (.int 1)))]) [.sif (.call 19 [(.ix (.var 7) (.cst (.int 0))), (.ix (.var 3) (.cst (.int 0)))]) [.expr (.met .append (.var 4) [(.tup [(.call 13 [(.var 3), (.var 7), (.var 1)]), (.var 6)])])] [.sif (.call 19 [(.ix (.var 3) (.cst (.int 0))), (.ix (.var 7) (.cst (.int 0)))]) [.expr (.met .append (.var 5) [(.tup [(.call 13 [(.var 3), (.var 7), (.var 1)]), (.var 6)])])] []]] []] ρ1 S) (enumL j (cs.map sp))
        [some (.d (rg r)), some (.d (fr h)), some (.d (gsp (i, t))), some (.d (sp s)), some (.r 0), some (.r 1), o6, o7] [.lst A, .lst B] =
        some (.nx [some (.d (rg r)), some (.d (fr h)), some (.d (gsp (i, t))), some (.d (sp s)), some (.r 0), some (.r 1), p6, p7] [.lst (A ++ (plcI (leftC s) s h j cs).map pkd), .lst (B ++ (plcI (rightC s) s h j cs).map pkd)]) := by
    intro g hg cs
    induction cs with
    | nil => intro j A B o6 o7 _ _ _; exact ⟨o6, o7, by simp [enumL, forL_nil (hg _), plcI]⟩
    | cons c cs ih =>
      intro j A B o6 o7 hc hA hB
      have zc := hc c List.mem_cons_self
      simp only [List.length_cons] at hA hB
      have lA : A.length < 16777216 := by omega
      have lB : B.length < 16777216 := by omega
      have g1 := run_under (d + 4) zs.2 zc.2 (by omega) (by omega)
      have g2 := run_under (d + 4) zc.1 zs.1 (by omega) (by omega)
      have g3 := run_under (d + 4) zs.1 zc.1 (by omega) (by omega)
      rw [List.map_cons]
      show ∃ p6 p7, forL g _ (.tuple [.int (j : Int), sp c] :: enumL (j + 1) (cs.map sp)) _ _ = _
      by_cases q1 : s.2 < c.2
      · have g4 := run_place_at (d + 1) zs zc zh (by grind) (by omega)
        by_cases q2 : c.1 < s.1
        · have q3 : ¬ s.1 < c.1 := by grind
          have l1 : leftC s c = true := by simp [leftC, q1, q2]
          have l2 : rightC s c = false := by simp [rightC, q3]
          obtain ⟨p6, p7, e⟩ := ih (j + 1) (A ++ [pkd (plc s c h, j)]) B (some (.d (.int (j : Int)))) (some (.d (sp c))) (fun z hz => hc z (List.mem_cons_of_mem _ hz)) (by simp; omega) (by omega)
          refine ⟨p6, p7, ?_⟩
          rw [forL_cons (hg _) (ρ' := [some (.d (rg r)), some (.d (fr h)), some (.d (gsp (i, t))), some (.d (sp s)), some (.r 0), some (.r 1), some (.d (.int (j : Int))), some (.d (sp c))]) (S' := [.lst (A ++ [pkd (plc s c h, j)]), .lst B]) ?_, e]
          · simp [plcI, l1, l2]
          · simp [runFn, sxs_cons, sxs_nil, sx_asg, sx_asgT, sx_alloc, sx_par, sx_if, sx_retV, ret_tup, evn_tup, ret_lst, evn_lst, ret_bin, evn_bin, ret_neg, evn_neg, ret_not, evn_not, ret_cmp, evn_cmp, ret_chain, evn_chain, ret_and, evn_and, ret_or, evn_or, ret_ite, evn_ite, ret_ix, evn_ix, ret_sl, evn_sl, ret_bf, evn_bf, ret_met, evn_met, ret_comp, evn_comp, ret_cst, evn_cst, ret_call, sx_expr, sx_aug, sx_brk, sx_cnt, ev_var, ev_cst, ev_tup, ev_lst, ev_bin, ev_neg, ev_not, ev_cmp, ev_chain, ev_and, ev_or, ev_ite, ev_ix, ev_sl, ev_back, ev_call, ev_bf, ev_met, evn_call, evns, evs, evp, evt, own, setAll, callC, derefs, isRef, op1, op2, dt, vd, vb, Cr.part, intD, deref, items_list, items_tuple, Cr.ixN, ix_tup, ix_list, ix_fr0, ix_fr1, ix_sp0, ix_sp1, ix_gsp0, ix_gsp1, items_fr, items_sp, items_rg, cmp_eqF, cmp_neF, binD, tru_int, tru_bool, bd_nm, bd_tup, bds_nil, bds_cons, frz, frzV, isNew, bfD, metS, metD, isLst, cmp_eqI, cmp_neI, cmp_ltI, cmp_leI, cmp_gtI, cmp_geI, cmp_isNone, cmp_isNoneT, cmp_notNone, cmp_notNoneT, cmp_notB, cmp_isB, cmp_neB, cmp_eqB, bd_sp, bd_gsp, bd_pkd, items_gsp, rf0, rf1, rf2, rf3, rf4, rf5, rf6, rf7, rf8, rf9, rf10, rf11, rf12, rf13, rf14, rf15, rf16, rf17, rf18, rf19, rf20, rf21, rf22, rf23, rf24, rf25, rf26, rf27, rf28, rf29, rf30, rf31, rf32, rf33, rf34, rf35, rf36, rf37, rf38, rf39, rf40, rf41, rf42, rf43, rf44, rf45, g1, g2, g4, q1, q2, lA, line, pkd]
        · by_cases q3 : s.1 < c.1
          · have l1 : leftC s c = false := by simp [leftC, q2]
            have l2 : rightC s c = true := by simp [rightC, q1, q3]
            obtain ⟨p6, p7, e⟩ := ih (j + 1) A (B ++ [pkd (plc s c h, j)]) (some (.d (.int (j : Int)))) (some (.d (sp c))) (fun z hz => hc z (List.mem_cons_of_mem _ hz)) (by omega) (by simp; omega)
            refine ⟨p6, p7, ?_⟩
            rw [forL_cons (hg _) (ρ' := [some (.d (rg r)), some (.d (fr h)), some (.d (gsp (i, t))), some (.d (sp s)), some (.r 0), some (.r 1), some (.d (.int (j : Int))), some (.d (sp c))]) (S' := [.lst A, .lst (B ++ [pkd (plc s c h, j)])]) ?_, e]
            · simp [plcI, l1, l2]
            · simp [runFn, sxs_cons, sxs_nil, sx_asg, sx_asgT, sx_alloc, sx_par, sx_if, sx_retV, ret_tup, evn_tup, ret_lst, evn_lst, ret_bin, evn_bin, ret_neg, evn_neg, ret_not, evn_not, ret_cmp, evn_cmp, ret_chain, evn_chain, ret_and, evn_and, ret_or, evn_or, ret_ite, evn_ite, ret_ix, evn_ix, ret_sl, evn_sl, ret_bf, evn_bf, ret_met, evn_met, ret_comp, evn_comp, ret_cst, evn_cst, ret_call, sx_expr, sx_aug, sx_brk, sx_cnt, ev_var, ev_cst, ev_tup, ev_lst, ev_bin, ev_neg, ev_not, ev_cmp, ev_chain, ev_and, ev_or, ev_ite, ev_ix, ev_sl, ev_back, ev_call, ev_bf, ev_met, evn_call, evns, evs, evp, evt, own, setAll, callC, derefs, isRef, op1, op2, dt, vd, vb, Cr.part, intD, deref, items_list, items_tuple, Cr.ixN, ix_tup, ix_list, ix_fr0, ix_fr1, ix_sp0, ix_sp1, ix_gsp0, ix_gsp1, items_fr, items_sp, items_rg, cmp_eqF, cmp_neF, binD, tru_int, tru_bool, bd_nm, bd_tup, bds_nil, bds_cons, frz, frzV, isNew, bfD, metS, metD, isLst, cmp_eqI, cmp_neI, cmp_ltI, cmp_leI, cmp_gtI, cmp_geI, cmp_isNone, cmp_isNoneT, cmp_notNone, cmp_notNoneT, cmp_notB, cmp_isB, cmp_neB, cmp_eqB, bd_sp, bd_gsp, bd_pkd, items_gsp, rf0, rf1, rf2, rf3, rf4, rf5, rf6, rf7, rf8, rf9, rf10, rf11, rf12, rf13, rf14, rf15, rf16, rf17, rf18, rf19, rf20, rf21, rf22, rf23, rf24, rf25, rf26, rf27, rf28, rf29, rf30, rf31, rf32, rf33, rf34, rf35, rf36, rf37, rf38, rf39, rf40, rf41, rf42, rf43, rf44, rf45, g1, g2, g3, g4, q1, q2, q3, lB, line, pkd]
          · have l1 : leftC s c = false := by simp [leftC, q2]
            have l2 : rightC s c = false := by simp [rightC, q3]
            obtain ⟨p6, p7, e⟩ := ih (j + 1) A B (some (.d (.int (j : Int)))) (some (.d (sp c))) (fun z hz => hc z (List.mem_cons_of_mem _ hz)) (by omega) (by omega)
            refine ⟨p6, p7, ?_⟩
            rw [forL_cons (hg _) (ρ' := [some (.d (rg r)), some (.d (fr h)), some (.d (gsp (i, t))), some (.d (sp s)), some (.r 0), some (.r 1), some (.d (.int (j : Int))), some (.d (sp c))]) (S' := [.lst A, .lst B]) ?_, e]
            · simp [plcI, l1, l2]
            · simp [runFn, sxs_cons, sxs_nil, sx_asg, sx_asgT, sx_alloc, sx_par, sx_if, sx_retV, ret_tup, evn_tup, ret_lst, evn_lst, ret_bin, evn_bin, ret_neg, evn_neg, ret_not, evn_not, ret_cmp, evn_cmp, ret_chain, evn_chain, ret_and, evn_and, ret_or, evn_or, ret_ite, evn_ite, ret_ix, evn_ix, ret_sl, evn_sl, ret_bf, evn_bf, ret_met, evn_met, ret_comp, evn_comp, ret_cst, evn_cst, ret_call, sx_expr, sx_aug, sx_brk, sx_cnt, ev_var, ev_cst, ev_tup, ev_lst, ev_bin, ev_neg, ev_not, ev_cmp, ev_chain, ev_and, ev_or, ev_ite, ev_ix, ev_sl, ev_back, ev_call, ev_bf, ev_met, evn_call, evns, evs, evp, evt, own, setAll, callC, derefs, isRef, op1, op2, dt, vd, vb, Cr.part, intD, deref, items_list, items_tuple, Cr.ixN, ix_tup, ix_list, ix_fr0, ix_fr1, ix_sp0, ix_sp1, ix_gsp0, ix_gsp1, items_fr, items_sp, items_rg, cmp_eqF, cmp_neF, binD, tru_int, tru_bool, bd_nm, bd_tup, bds_nil, bds_cons, frz, frzV, isNew, bfD, metS, metD, isLst, cmp_eqI, cmp_neI, cmp_ltI, cmp_leI, cmp_gtI, cmp_geI, cmp_isNone, cmp_isNoneT, cmp_notNone, cmp_notNoneT, cmp_notB, cmp_isB, cmp_neB, cmp_eqB, bd_sp, bd_gsp, bd_pkd, items_gsp, rf0, rf1, rf2, rf3, rf4, rf5, rf6, rf7, rf8, rf9, rf10, rf11, rf12, rf13, rf14, rf15, rf16, rf17, rf18, rf19, rf20, rf21, rf22, rf23, rf24, rf25, rf26, rf27, rf28, rf29, rf30, rf31, rf32, rf33, rf34, rf35, rf36, rf37, rf38, rf39, rf40, rf41, rf42, rf43, rf44, rf45, g1, g2, g3, q1, q2, q3]
      · have l1 : leftC s c = false := by simp [leftC, q1]
        have l2 : rightC s c = false := by simp [rightC, q1]
        obtain ⟨p6, p7, e⟩ := ih (j + 1) A B (some (.d (.int (j : Int)))) (some (.d (sp c))) (fun z hz => hc z (List.mem_cons_of_mem _ hz)) (by omega) (by omega)
        refine ⟨p6, p7, ?_⟩
        rw [forL_cons (hg _) (ρ' := [some (.d (rg r)), some (.d (fr h)), some (.d (gsp (i, t))), some (.d (sp s)), some (.r 0), some (.r 1), some (.d (.int (j : Int))), some (.d (sp c))]) (S' := [.lst A, .lst B]) ?_, e]
        · simp [plcI, l1, l2]
        · simp [runFn, sxs_cons, sxs_nil, sx_asg, sx_asgT, sx_alloc, sx_par, sx_if, sx_retV, ret_tup, evn_tup, ret_lst, evn_lst, ret_bin, evn_bin, ret_neg, evn_neg, ret_not, evn_not, ret_cmp, evn_cmp, ret_chain, evn_chain, ret_and, evn_and, ret_or, evn_or, ret_ite, evn_ite, ret_ix, evn_ix, ret_sl, evn_sl, ret_bf, evn_bf, ret_met, evn_met, ret_comp, evn_comp, ret_cst, evn_cst, ret_call, sx_expr, sx_aug, sx_brk, sx_cnt, ev_var, ev_cst, ev_tup, ev_lst, ev_bin, ev_neg, ev_not, ev_cmp, ev_chain, ev_and, ev_or, ev_ite, ev_ix, ev_sl, ev_back, ev_call, ev_bf, ev_met, evn_call, evns, evs, evp, evt, own, setAll, callC, derefs, isRef, op1, op2, dt, vd, vb, Cr.part, intD, deref, items_list, items_tuple, Cr.ixN, ix_tup, ix_list, ix_fr0, ix_fr1, ix_sp0, ix_sp1, ix_gsp0, ix_gsp1, items_fr, items_sp, items_rg, cmp_eqF, cmp_neF, binD, tru_int, tru_bool, bd_nm, bd_tup, bds_nil, bds_cons, frz, frzV, isNew, bfD, metS, metD, isLst, cmp_eqI, cmp_neI, cmp_ltI, cmp_leI, cmp_gtI, cmp_geI, cmp_isNone, cmp_isNoneT, cmp_notNone, cmp_notNoneT, cmp_notB, cmp_isB, cmp_neB, cmp_eqB, bd_sp, bd_gsp, bd_pkd, items_gsp, rf0, rf1, rf2, rf3, rf4, rf5, rf6, rf7, rf8, rf9, rf10, rf11, rf12, rf13, rf14, rf15, rf16, rf17, rf18, rf19, rf20, rf21, rf22, rf23, rf24, rf25, rf26, rf27, rf28, rf29, rf30, rf31, rf32, rf33, rf34, rf35, rf36, rf37, rf38, rf39, rf40, rf41, rf42, rf43, rf44, rf45, g1, q1]
  obtain ⟨p6, p7, e⟩ := key (still (.d (rg r)) (r.map sp)) (fun _ => trivial) r 0 [] [] none none zr (by simpa using hr) (by simpa using hr)
  have hfor : sx ⟨G.refs, G.orc (d + 6)⟩ 0 (.sfor (.tup [(.nm 6), (.nm 7)]) (.enm (.var 0)) [.sif (.call 19 [(.ix (.var 3) (.cst (.int 1))), (.ix (.var 7) (.cst (.int 1)))]) [.sif (.call 19 [(.ix (.var 7) (.cst (.int 0))), (.ix (.var 3) (.cst (.int 0)))]) [.expr (.met .append (.var 4) [(.tup [(.call 13 [(.var 3), (.var 7), (.var 1)]), (.var 6)])])] [.sif (.call 19 [(.ix (.var 3) (.cst (.int 0))), (.ix (.var 7) (.cst (.int 0)))]) [.expr (.met .append (.var 5) [(.tup [(.call 13 [(.var 3), (.var 7), (.var 1)]), (.var 6)])])] []]] []]) [some (.d (rg r)), some (.d (fr h)), some (.d (gsp (i, t))), some (.d (sp s)), some (.r 0), some (.r 1), none, none] [.lst [], .lst []] =
      some (.nx [some (.d (rg r)), some (.d (fr h)), some (.d (gsp (i, t))), some (.d (sp s)), some (.r 0), some (.r 1), p6, p7] [.lst ((plcI (leftC s) s h 0 r).map pkd), .lst ((plcI (rightC s) s h 0 r).map pkd)]) := by
    have he : evi ⟨G.refs, G.orc (d + 6)⟩ (.enm (.var 0)) [some (.d (rg r)), some (.d (fr h)), some (.d (gsp (i, t))), some (.d (sp s)), some (.r 0), some (.r 1), none, none] [.lst [], .lst []] = some ((enumL 0 (r.map sp), still (.d (rg r)) (r.map sp)), [.lst [], .lst []]) := by
      simp [evi, itE, ev_var, deref, items_rg]
    rw [sx_for, he]
    exact e
  simp [b23, runFn, sxs_cons, sxs_nil, sx_asg, sx_asgT, sx_alloc, sx_par, sx_if, sx_retV, ret_tup, evn_tup, ret_lst, evn_lst, ret_bin, evn_bin, ret_neg, evn_neg, ret_not, evn_not, ret_cmp, evn_cmp, ret_chain, evn_chain, ret_and, evn_and, ret_or, evn_or, ret_ite, evn_ite, ret_ix, evn_ix, ret_sl, evn_sl, ret_bf, evn_bf, ret_met, evn_met, ret_comp, evn_comp, ret_cst, evn_cst, ret_call, sx_expr, sx_aug, sx_brk, sx_cnt, ev_var, ev_cst, ev_tup, ev_lst, ev_bin, ev_neg, ev_not, ev_cmp, ev_chain, ev_and, ev_or, ev_ite, ev_ix, ev_sl, ev_back, ev_call, ev_bf, ev_met, evn_call, evns, evs, evp, evt, own, setAll, callC, derefs, isRef, op1, op2, dt, vd, vb, Cr.part, intD, deref, items_list, items_tuple, Cr.ixN, ix_tup, ix_list, ix_fr0, ix_fr1, ix_sp0, ix_sp1, ix_gsp0, ix_gsp1, items_fr, items_sp, items_rg, cmp_eqF, cmp_neF, binD, tru_int, tru_bool, bd_nm, bd_tup, bds_nil, bds_cons, frz, frzV, isNew, bfD, metS, metD, isLst, cmp_eqI, cmp_neI, cmp_ltI, cmp_leI, cmp_gtI, cmp_geI, cmp_isNone, cmp_isNoneT, cmp_notNone, cmp_notNoneT, cmp_notB, cmp_isB, cmp_neB, cmp_eqB, bd_sp, bd_gsp, bd_pkd, items_gsp, rf0, rf1, rf2, rf3, rf4, rf5, rf6, rf7, rf8, rf9, rf10, rf11, rf12, rf13, rf14, rf15, rf16, rf17, rf18, rf19, rf20, rf21, rf22, rf23, rf24, rf25, rf26, rf27, rf28, rf29, rf30, rf31, rf32, rf33, rf34, rf35, rf36, rf37, rf38, rf39, rf40, rf41, rf42, rf43, rf44, rf45, f0, hfor, line]
theorem comp_fst {P : Prm} {ρ : Ev} {S : Store} {v i j : Nat} {L : List (Rat × Nat)} (hi : i < ρ.length) (hij : i ≠ j) (hv : ρ[v]? = some (some (.d (.list (L.map pkd))))) (hl : L.length ≤ 1000) :
    ev P (.comp [i, j] (.tup [(.nm i), (.nm j)]) (.var v) [] (.var i)) ρ S = some (.d (.list ((L.map (·.1)).map fr)), S) := by
  have he : evi P (.var v) ρ S = some ((L.map pkd, still (.d (.list (L.map pkd))) (L.map pkd)), S) := by
    simp [evi, itV, ev_var, deref, hv, items_list]
  have hm : (L.flatMap fun q => [fr q.1]) = (L.map (·.1)).map fr := by rw [flatMap_one, List.map_map]; rfl
  rw [← hm]
  refine comp_map he trivial ?_ fun q _ => ?_
  · rw [flatMap_one, List.length_map]
    show L.length ≤ 16777216
    omega
  · have e1 : ((((wipeE ρ [i, j]).set i (some (.d (fr q.1)))).set j (some (.d (.int (q.2 : Int)))))[i]?) = some (some (.d (fr q.1))) := by
      rw [List.getElem?_set_ne (Ne.symm hij), List.getElem?_set_self]
      simp [wipeE, hi]
    simp [turnC, eltC, bd_pkd, bds_cons, bds_nil, bd_nm, evt, ev_var, e1, dt]
theorem run_reach (d : Nat) {n k q : Nat} {r : List Pt} {i : Nat} {t h : Rat} {a b : Pt} (ha : r[i]? = some a) (hb : r[i + 1]? = some b) (zr : ∀ c ∈ r, szp n c) (zt : sz k t) (zh : sz q h) (hr : r.length ≤ 1000) (h1 : 20 * n + 4 * k + 4 * q + 50 ≤ 8192) :
    G.orc (d + 8) 24 [.d (rg r), .d (fr h), .d (gsp (i, t))] [] = some (sp (lo r h (mid a b t), hi r h (mid a b t)), false, []) := by
  rw [orc_fn (d + 7) pg24]
  have za := zr a (List.mem_of_getElem? ha)
  have zb := zr b (List.mem_of_getElem? hb)
  have zs := sz_mid za zb zt
  obtain ⟨u, hu⟩ : ∃ u, r.head? = some u := by cases r with | nil => simp at ha | cons u _ => exact ⟨u, rfl⟩
  obtain ⟨v, hv⟩ : ∃ v, r.getLast? = some v := by cases r with | nil => simp at ha | cons u _ => exact ⟨_, List.getLast?_eq_some_getLast (List.cons_ne_nil _ _)⟩
  have zu := zr u (List.mem_of_mem_head? hu)
  have zv := zr v (List.mem_of_getLast? hv)
  have f0 := run_sight_places d ha hb zr zt zh hr h1
  have f1 := run_line_of (d + 6) hu hv
  generalize hs : mid a b t = s at zs f0 ⊢
  have zp : ∀ p : Pt → Bool, (∀ c, p c = true → s.2 < c.2) → ∀ y ∈ (plcI p s h 0 r).map (·.1), sz (4 * (3 * n + k + 2) + 2 * n + q + 4) y := fun p hp y hy => by
    rw [plcI_fst] at hy
    obtain ⟨c, hc, rfl⟩ := List.mem_map.mp hy
    obtain ⟨hc1, hc2⟩ := List.mem_filter.mp hc
    have := hp c hc2
    exact (sz_plc zs (zr c hc1) zh (by grind)).mono (by omega)
  have zl := zp (leftC s) fun c hc => by simp [leftC] at hc; exact hc.1
  have zi := zp (rightC s) fun c hc => by simp [rightC] at hc; exact hc.1
  have f2 := run_greatest (d + 5) (D := .tuple (fr u.1 :: ((plcI (leftC s) s h 0 r).map (·.1)).map fr)) (x := u.1) (xs := (plcI (leftC s) s h 0 r).map (·.1)) rfl (fun y hy => (List.mem_cons.mp hy).elim (fun e => e ▸ zu.1.mono (by omega)) fun hy => zl y hy) (by omega)
  have f3 := run_least (d + 5) (D := .tuple (fr v.1 :: ((plcI (rightC s) s h 0 r).map (·.1)).map fr)) (x := v.1) (xs := (plcI (rightC s) s h 0 r).map (·.1)) rfl (fun y hy => (List.mem_cons.mp hy).elim (fun e => e ▸ zv.1.mono (by omega)) fun hy => zi y hy) (by omega)
  have l1 := @plcI_len (leftC s) s h 0 r
  have l2 := @plcI_len (rightC s) s h 0 r
  have c1 : ∀ (ρ : Ev) (S : Store), ρ.length = 10 → ρ[3]? = some (some (.d (.list ((plcI (leftC s) s h 0 r).map pkd)))) → ev ⟨G.refs, G.orc (d + 7)⟩ (.comp [8, 9] (.tup [(.nm 8), (.nm 9)]) (.var 3) [] (.var 8)) ρ S = _ := fun ρ S h1 h2 => comp_fst (by omega) (by decide) h2 (by omega)
  have c2 : ∀ (ρ : Ev) (S : Store), ρ.length = 10 → ρ[4]? = some (some (.d (.list ((plcI (rightC s) s h 0 r).map pkd)))) → ev ⟨G.refs, G.orc (d + 7)⟩ (.comp [8, 9] (.tup [(.nm 8), (.nm 9)]) (.var 4) [] (.var 8)) ρ S = _ := fun ρ S h1 h2 => comp_fst (by omega) (by decide) h2 (by omega)
  have e1 : lo r h s = maxL (u.1 :: (plcI (leftC s) s h 0 r).map (·.1)) := by unfold lo; rw [plcI_fst, firstX_of hu]
  have e2 : hi r h s = minL (v.1 :: (plcI (rightC s) s h 0 r).map (·.1)) := by unfold hi; rw [plcI_fst, lastX_of hv]
  rw [e1, e2]
  generalize (plcI (leftC s) s h 0 r) = L at *
  generalize (plcI (rightC s) s h 0 r) = R at *
  simp only [List.map_map] at f2 f3 c1 c2
  have k3 : L.length ≤ 16777215 := by omega
  have k4 : R.length ≤ 16777215 := by omega
  simp [b24, runFn, sxs_cons, sxs_nil, sx_asg, sx_asgT, sx_alloc, sx_par, sx_if, sx_retV, ret_tup, evn_tup, ret_lst, evn_lst, ret_bin, evn_bin, ret_neg, evn_neg, ret_not, evn_not, ret_cmp, evn_cmp, ret_chain, evn_chain, ret_and, evn_and, ret_or, evn_or, ret_ite, evn_ite, ret_ix, evn_ix, ret_sl, evn_sl, ret_bf, evn_bf, ret_met, evn_met, ret_comp, evn_comp, ret_cst, evn_cst, ret_call, sx_expr, sx_aug, sx_brk, sx_cnt, ev_var, ev_cst, ev_tup, ev_lst, ev_bin, ev_neg, ev_not, ev_cmp, ev_chain, ev_and, ev_or, ev_ite, ev_ix, ev_sl, ev_back, ev_call, ev_bf, ev_met, evn_call, evns, evs, evp, evt, own, setAll, callC, derefs, isRef, op1, op2, dt, vd, vb, Cr.part, intD, deref, items_list, items_tuple, Cr.ixN, ix_tup, ix_list, ix_fr0, ix_fr1, ix_sp0, ix_sp1, ix_gsp0, ix_gsp1, items_fr, items_sp, items_rg, cmp_eqF, cmp_neF, binD, tru_int, tru_bool, bd_nm, bd_tup, bds_nil, bds_cons, frz, frzV, isNew, bfD, metS, metD, isLst, cmp_eqI, cmp_neI, cmp_ltI, cmp_leI, cmp_gtI, cmp_geI, cmp_isNone, cmp_isNoneT, cmp_notNone, cmp_notNoneT, cmp_notB, cmp_isB, cmp_neB, cmp_eqB, bd_sp, bd_gsp, bd_pkd, items_gsp, rf0, rf1, rf2, rf3, rf4, rf5, rf6, rf7, rf8, rf9, rf10, rf11, rf12, rf13, rf14, rf15, rf16, rf17, rf18, rf19, rf20, rf21, rf22, rf23, rf24, rf25, rf26, rf27, rf28, rf29, rf30, rf31, rf32, rf33, rf34, rf35, rf36, rf37, rf38, rf39, rf40, rf41, rf42, rf43, rf44, rf45, f0, f1, f2, f3, c1, c2, k3, k4, line, sp_fold]
/-! ### the law's own sights and reaches -/
theorem run_law_spot (d : Nat) {n k : Nat} {r : List Pt} {i : Nat} {t : Rat} {a b : Pt} (ha : r[i]? = some a) (hb : r[i + 1]? = some b) (za : szp n a) (zb : szp n b) (zt : sz k t) (h : 3 * n + k + 2 ≤ 8192) : G.orc (d + 5) 36 [.d (rg r), .d (.int (i : Int)), .d (fr t)] [] = some (sp (mid a b t), false, []) := by
  rw [orc_fn (d + 4) pg36]
  have f1 := run_law_less d zb.1 za.1 (by omega)
  have f2 := run_law_times (d + 1) zt (sz_sub zb.1 za.1) (by omega)
  have f3 := run_law_sum (d + 1) za.1 (sz_mul zt (sz_sub zb.1 za.1)) (by omega)
  have g1 := run_law_less d zb.2 za.2 (by omega)
  have g2 := run_law_times (d + 1) zt (sz_sub zb.2 za.2) (by omega)
  have g3 := run_law_sum (d + 1) za.2 (sz_mul zt (sz_sub zb.2 za.2)) (by omega)
  simp [b36, runFn, sxs_cons, sxs_nil, sx_asg, sx_asgT, sx_alloc, sx_par, sx_if, sx_retV, ret_tup, evn_tup, ret_lst, evn_lst, ret_bin, evn_bin, ret_neg, evn_neg, ret_not, evn_not, ret_cmp, evn_cmp, ret_chain, evn_chain, ret_and, evn_and, ret_or, evn_or, ret_ite, evn_ite, ret_ix, evn_ix, ret_sl, evn_sl, ret_bf, evn_bf, ret_met, evn_met, ret_comp, evn_comp, ret_cst, evn_cst, ret_call, sx_expr, sx_aug, sx_brk, sx_cnt, ev_var, ev_cst, ev_tup, ev_lst, ev_bin, ev_neg, ev_not, ev_cmp, ev_chain, ev_and, ev_or, ev_ite, ev_ix, ev_sl, ev_back, ev_call, ev_bf, ev_met, evn_call, evns, evs, evp, evt, own, setAll, callC, derefs, isRef, op1, op2, dt, vd, vb, Cr.part, intD, deref, items_list, items_tuple, Cr.ixN, ix_tup, ix_list, ix_fr0, ix_fr1, ix_sp0, ix_sp1, ix_gsp0, ix_gsp1, items_fr, items_sp, items_rg, cmp_eqF, cmp_neF, binD, tru_int, tru_bool, bd_nm, bd_tup, bds_nil, bds_cons, frz, frzV, isNew, bfD, metS, metD, isLst, cmp_eqI, cmp_neI, cmp_ltI, cmp_leI, cmp_gtI, cmp_geI, cmp_isNone, cmp_isNoneT, cmp_notNone, cmp_notNoneT, cmp_notB, cmp_isB, cmp_neB, cmp_eqB, bd_sp, bd_gsp, bd_pkd, items_gsp, rf0, rf1, rf2, rf3, rf4, rf5, rf6, rf7, rf8, rf9, rf10, rf11, rf12, rf13, rf14, rf15, rf16, rf17, rf18, rf19, rf20, rf21, rf22, rf23, rf24, rf25, rf26, rf27, rf28, rf29, rf30, rf31, rf32, rf33, rf34, rf35, rf36, rf37, rf38, rf39, rf40, rf41, rf42, rf43, rf44, rf45, rg_at ha, rg_at1 hb, f1, f2, f3, g1, g2, g3, line, sp_fold, mid]
theorem run_law_is_above (d : Nat) {n m k : Nat} {A B c : Pt} (za : szp n A) (zb : szp m B) (zc : szp k c) (h : 2 * n + m + k + 2 ≤ 8192) : G.orc (d + 5) 37 [.d (sp A), .d (sp B), .d (sp c)] [] = some (.bool (decide ((B.2 - A.2) * (c.1 - A.1) < (B.1 - A.1) * (c.2 - A.2))), false, []) := by
  rw [orc_fn (d + 4) pg37]
  have f1 := run_law_less d zb.1 za.1 (by omega)
  have f2 := run_law_less d zb.2 za.2 (by omega)
  have f3 := run_law_less d zc.1 za.1 (by omega)
  have f4 := run_law_less d zc.2 za.2 (by omega)
  have f5 := run_law_times (d + 1) (sz_sub zb.2 za.2) (sz_sub zc.1 za.1) (by omega)
  have f6 := run_law_times (d + 1) (sz_sub zb.1 za.1) (sz_sub zc.2 za.2) (by omega)
  have f7 := run_law_below (d + 3) (sz_mul (sz_sub zb.2 za.2) (sz_sub zc.1 za.1)) (sz_mul (sz_sub zb.1 za.1) (sz_sub zc.2 za.2)) (by omega) (by omega)
  simp [b37, runFn, sxs_cons, sxs_nil, sx_asg, sx_asgT, sx_alloc, sx_par, sx_if, sx_retV, ret_tup, evn_tup, ret_lst, evn_lst, ret_bin, evn_bin, ret_neg, evn_neg, ret_not, evn_not, ret_cmp, evn_cmp, ret_chain, evn_chain, ret_and, evn_and, ret_or, evn_or, ret_ite, evn_ite, ret_ix, evn_ix, ret_sl, evn_sl, ret_bf, evn_bf, ret_met, evn_met, ret_comp, evn_comp, ret_cst, evn_cst, ret_call, sx_expr, sx_aug, sx_brk, sx_cnt, ev_var, ev_cst, ev_tup, ev_lst, ev_bin, ev_neg, ev_not, ev_cmp, ev_chain, ev_and, ev_or, ev_ite, ev_ix, ev_sl, ev_back, ev_call, ev_bf, ev_met, evn_call, evns, evs, evp, evt, own, setAll, callC, derefs, isRef, op1, op2, dt, vd, vb, Cr.part, intD, deref, items_list, items_tuple, Cr.ixN, ix_tup, ix_list, ix_fr0, ix_fr1, ix_sp0, ix_sp1, ix_gsp0, ix_gsp1, items_fr, items_sp, items_rg, cmp_eqF, cmp_neF, binD, tru_int, tru_bool, bd_nm, bd_tup, bds_nil, bds_cons, frz, frzV, isNew, bfD, metS, metD, isLst, cmp_eqI, cmp_neI, cmp_ltI, cmp_leI, cmp_gtI, cmp_geI, cmp_isNone, cmp_isNoneT, cmp_notNone, cmp_notNoneT, cmp_notB, cmp_isB, cmp_neB, cmp_eqB, bd_sp, bd_gsp, bd_pkd, items_gsp, rf0, rf1, rf2, rf3, rf4, rf5, rf6, rf7, rf8, rf9, rf10, rf11, rf12, rf13, rf14, rf15, rf16, rf17, rf18, rf19, rf20, rf21, rf22, rf23, rf24, rf25, rf26, rf27, rf28, rf29, rf30, rf31, rf32, rf33, rf34, rf35, rf36, rf37, rf38, rf39, rf40, rf41, rf42, rf43, rf44, rf45, f1, f2, f3, f4, f5, f6, f7]
theorem run_law_sees (d : Nat) {n m q z : Nat} {r : List Pt} {h x : Rat} {s : Pt} (zr : ∀ c ∈ r, szp n c) (zs : szp z s) (zh : sz q h) (zx : sz m x) (h1 : 2 * n + 4 * z + 4 * m + 4 * q + 20 ≤ 8192) :
    G.orc (d + 6) 38 [.d (rg r), .d (fr h), .d (fr x), .d (sp s)] [] = some (.bool (seesB r h x s), false, []) := by
  rw [orc_fn (d + 5) pg38]
  by_cases e0 : x = s.1
  · have eb : seesB r h x s = true := seesB_iff.mpr (.inl e0)
    rw [eb]
    simp [b38, runFn, sxs_cons, sxs_nil, sx_asg, sx_asgT, sx_alloc, sx_par, sx_if, sx_retV, ret_tup, evn_tup, ret_lst, evn_lst, ret_bin, evn_bin, ret_neg, evn_neg, ret_not, evn_not, ret_cmp, evn_cmp, ret_chain, evn_chain, ret_and, evn_and, ret_or, evn_or, ret_ite, evn_ite, ret_ix, evn_ix, ret_sl, evn_sl, ret_bf, evn_bf, ret_met, evn_met, ret_comp, evn_comp, ret_cst, evn_cst, ret_call, sx_expr, sx_aug, sx_brk, sx_cnt, ev_var, ev_cst, ev_tup, ev_lst, ev_bin, ev_neg, ev_not, ev_cmp, ev_chain, ev_and, ev_or, ev_ite, ev_ix, ev_sl, ev_back, ev_call, ev_bf, ev_met, evn_call, evns, evs, evp, evt, own, setAll, callC, derefs, isRef, op1, op2, dt, vd, vb, Cr.part, intD, deref, items_list, items_tuple, Cr.ixN, ix_tup, ix_list, ix_fr0, ix_fr1, ix_sp0, ix_sp1, ix_gsp0, ix_gsp1, items_fr, items_sp, items_rg, cmp_eqF, cmp_neF, binD, tru_int, tru_bool, bd_nm, bd_tup, bds_nil, bds_cons, frz, frzV, isNew, bfD, metS, metD, isLst, cmp_eqI, cmp_neI, cmp_ltI, cmp_leI, cmp_gtI, cmp_geI, cmp_isNone, cmp_isNoneT, cmp_notNone, cmp_notNoneT, cmp_notB, cmp_isB, cmp_neB, cmp_eqB, bd_sp, bd_gsp, bd_pkd, items_gsp, rf0, rf1, rf2, rf3, rf4, rf5, rf6, rf7, rf8, rf9, rf10, rf11, rf12, rf13, rf14, rf15, rf16, rf17, rf18, rf19, rf20, rf21, rf22, rf23, rf24, rf25, rf26, rf27, rf28, rf29, rf30, rf31, rf32, rf33, rf34, rf35, rf36, rf37, rf38, rf39, rf40, rf41, rf42, rf43, rf44, rf45, line, sp_fold, e0]
  · have f2 := run_law_below (d + 4) zx zs.1 (by omega) (by omega)
    have key : ∀ (A B : Pt) (zA : szp (m + q + z) A) (zB : szp (m + q + z) B) (hp : 0 < B.1 - A.1) (bc : Pt → Bool) (hbc : ∀ c, bc c = (decide (A.1 < c.1) && decide (c.1 < B.1) && decide ((B.2 - A.2) * (c.1 - A.1) < (B.1 - A.1) * (c.2 - A.2)))) (g : Store → Prop) (hg : ∀ S, g S) (cs : List Pt) (o : Option PV), (∀ c ∈ cs, szp n c) →
        ∃ o', forL g (fun (y : PyData) (ρ : Ev) (S : Store) => (bd (.nm 7) y ρ).bind fun ρ1 => sxs ⟨G.refs, G.orc (d + 5)⟩ 0 [.sif (.and (.call 31 [(.ix (.var 5) (.cst (.int 0))), (.ix (.var 7) (.cst (.int 0)))]) (.and (.call 31 [(.ix (.var 7) (.cst (.int 0))), (.ix (.var 6) (.cst (.int 0)))]) (.call 37 [(.var 5), (.var 6), (.var 7)]))) [.ret (.cst (.bool false))] []] ρ1 S) (cs.map sp) [some (.d (rg r)), some (.d (fr h)), some (.d (fr x)), some (.d (sp s)), some (.d (sp (x, h))), some (.d (sp A)), some (.d (sp B)), o] [] = some (if cs.any bc = true then .rt (.bool false) false [] else .nx [some (.d (rg r)), some (.d (fr h)), some (.d (fr x)), some (.d (sp s)), some (.d (sp (x, h))), some (.d (sp A)), some (.d (sp B)), o'] []) := by
      intro A B zA zB hp bc hbc g hg cs
      induction cs with
      | nil => intro o _; exact ⟨o, by simp [forL_nil (hg _)]⟩
      | cons c cs ih =>
        intro o hc
        have zc := hc c List.mem_cons_self
        obtain ⟨o', e⟩ := ih (some (.d (sp c))) fun w hw => hc w (List.mem_cons_of_mem _ hw)
        have g1 := run_law_below (d + 4) zA.1 zc.1 (by omega) (by omega)
        have g2 := run_law_below (d + 4) zc.1 zB.1 (by omega) (by omega)
        have g3 := run_law_is_above d zA zB zc (by omega)
        refine ⟨o', ?_⟩
        rw [List.map_cons]
        have hb := hbc c
        by_cases q0 : bc c = true
        · have q0' := q0
          rw [hb] at q0'
          simp only [Bool.and_eq_true, decide_eq_true_eq] at q0'
          obtain ⟨⟨q1, q2⟩, q3⟩ := q0'
          rw [forL_ret (hg _) (y := .bool false) (n := false) (S' := [])]
          · simp [q0]
          · simp [runFn, sxs_cons, sxs_nil, sx_asg, sx_asgT, sx_alloc, sx_par, sx_if, sx_retV, ret_tup, evn_tup, ret_lst, evn_lst, ret_bin, evn_bin, ret_neg, evn_neg, ret_not, evn_not, ret_cmp, evn_cmp, ret_chain, evn_chain, ret_and, evn_and, ret_or, evn_or, ret_ite, evn_ite, ret_ix, evn_ix, ret_sl, evn_sl, ret_bf, evn_bf, ret_met, evn_met, ret_comp, evn_comp, ret_cst, evn_cst, ret_call, sx_expr, sx_aug, sx_brk, sx_cnt, ev_var, ev_cst, ev_tup, ev_lst, ev_bin, ev_neg, ev_not, ev_cmp, ev_chain, ev_and, ev_or, ev_ite, ev_ix, ev_sl, ev_back, ev_call, ev_bf, ev_met, evn_call, evns, evs, evp, evt, own, setAll, callC, derefs, isRef, op1, op2, dt, vd, vb, Cr.part, intD, deref, items_list, items_tuple, Cr.ixN, ix_tup, ix_list, ix_fr0, ix_fr1, ix_sp0, ix_sp1, ix_gsp0, ix_gsp1, items_fr, items_sp, items_rg, cmp_eqF, cmp_neF, binD, tru_int, tru_bool, bd_nm, bd_tup, bds_nil, bds_cons, frz, frzV, isNew, bfD, metS, metD, isLst, cmp_eqI, cmp_neI, cmp_ltI, cmp_leI, cmp_gtI, cmp_geI, cmp_isNone, cmp_isNoneT, cmp_notNone, cmp_notNoneT, cmp_notB, cmp_isB, cmp_neB, cmp_eqB, bd_sp, bd_gsp, bd_pkd, items_gsp, rf0, rf1, rf2, rf3, rf4, rf5, rf6, rf7, rf8, rf9, rf10, rf11, rf12, rf13, rf14, rf15, rf16, rf17, rf18, rf19, rf20, rf21, rf22, rf23, rf24, rf25, rf26, rf27, rf28, rf29, rf30, rf31, rf32, rf33, rf34, rf35, rf36, rf37, rf38, rf39, rf40, rf41, rf42, rf43, rf44, rf45, g1, g2, g3, q1, q2, q3]
        · rw [forL_cons (hg _) (ρ' := [some (.d (rg r)), some (.d (fr h)), some (.d (fr x)), some (.d (sp s)), some (.d (sp (x, h))), some (.d (sp A)), some (.d (sp B)), some (.d (sp c))]) (S' := []) ?_, e]
          · have q0' : bc c = false := by simpa using q0
            rw [List.any_cons, q0', Bool.false_or]
          · by_cases q1 : A.1 < c.1
            · by_cases q2 : c.1 < B.1
              · have q3 : ¬ (B.2 - A.2) * (c.1 - A.1) < (B.1 - A.1) * (c.2 - A.2) := fun q3 => q0 (by rw [hb]; simp [q1, q2, q3])
                simp [runFn, sxs_cons, sxs_nil, sx_asg, sx_asgT, sx_alloc, sx_par, sx_if, sx_retV, ret_tup, evn_tup, ret_lst, evn_lst, ret_bin, evn_bin, ret_neg, evn_neg, ret_not, evn_not, ret_cmp, evn_cmp, ret_chain, evn_chain, ret_and, evn_and, ret_or, evn_or, ret_ite, evn_ite, ret_ix, evn_ix, ret_sl, evn_sl, ret_bf, evn_bf, ret_met, evn_met, ret_comp, evn_comp, ret_cst, evn_cst, ret_call, sx_expr, sx_aug, sx_brk, sx_cnt, ev_var, ev_cst, ev_tup, ev_lst, ev_bin, ev_neg, ev_not, ev_cmp, ev_chain, ev_and, ev_or, ev_ite, ev_ix, ev_sl, ev_back, ev_call, ev_bf, ev_met, evn_call, evns, evs, evp, evt, own, setAll, callC, derefs, isRef, op1, op2, dt, vd, vb, Cr.part, intD, deref, items_list, items_tuple, Cr.ixN, ix_tup, ix_list, ix_fr0, ix_fr1, ix_sp0, ix_sp1, ix_gsp0, ix_gsp1, items_fr, items_sp, items_rg, cmp_eqF, cmp_neF, binD, tru_int, tru_bool, bd_nm, bd_tup, bds_nil, bds_cons, frz, frzV, isNew, bfD, metS, metD, isLst, cmp_eqI, cmp_neI, cmp_ltI, cmp_leI, cmp_gtI, cmp_geI, cmp_isNone, cmp_isNoneT, cmp_notNone, cmp_notNoneT, cmp_notB, cmp_isB, cmp_neB, cmp_eqB, bd_sp, bd_gsp, bd_pkd, items_gsp, rf0, rf1, rf2, rf3, rf4, rf5, rf6, rf7, rf8, rf9, rf10, rf11, rf12, rf13, rf14, rf15, rf16, rf17, rf18, rf19, rf20, rf21, rf22, rf23, rf24, rf25, rf26, rf27, rf28, rf29, rf30, rf31, rf32, rf33, rf34, rf35, rf36, rf37, rf38, rf39, rf40, rf41, rf42, rf43, rf44, rf45, g1, g2, g3, q1, q2, q3]
              · simp [runFn, sxs_cons, sxs_nil, sx_asg, sx_asgT, sx_alloc, sx_par, sx_if, sx_retV, ret_tup, evn_tup, ret_lst, evn_lst, ret_bin, evn_bin, ret_neg, evn_neg, ret_not, evn_not, ret_cmp, evn_cmp, ret_chain, evn_chain, ret_and, evn_and, ret_or, evn_or, ret_ite, evn_ite, ret_ix, evn_ix, ret_sl, evn_sl, ret_bf, evn_bf, ret_met, evn_met, ret_comp, evn_comp, ret_cst, evn_cst, ret_call, sx_expr, sx_aug, sx_brk, sx_cnt, ev_var, ev_cst, ev_tup, ev_lst, ev_bin, ev_neg, ev_not, ev_cmp, ev_chain, ev_and, ev_or, ev_ite, ev_ix, ev_sl, ev_back, ev_call, ev_bf, ev_met, evn_call, evns, evs, evp, evt, own, setAll, callC, derefs, isRef, op1, op2, dt, vd, vb, Cr.part, intD, deref, items_list, items_tuple, Cr.ixN, ix_tup, ix_list, ix_fr0, ix_fr1, ix_sp0, ix_sp1, ix_gsp0, ix_gsp1, items_fr, items_sp, items_rg, cmp_eqF, cmp_neF, binD, tru_int, tru_bool, bd_nm, bd_tup, bds_nil, bds_cons, frz, frzV, isNew, bfD, metS, metD, isLst, cmp_eqI, cmp_neI, cmp_ltI, cmp_leI, cmp_gtI, cmp_geI, cmp_isNone, cmp_isNoneT, cmp_notNone, cmp_notNoneT, cmp_notB, cmp_isB, cmp_neB, cmp_eqB, bd_sp, bd_gsp, bd_pkd, items_gsp, rf0, rf1, rf2, rf3, rf4, rf5, rf6, rf7, rf8, rf9, rf10, rf11, rf12, rf13, rf14, rf15, rf16, rf17, rf18, rf19, rf20, rf21, rf22, rf23, rf24, rf25, rf26, rf27, rf28, rf29, rf30, rf31, rf32, rf33, rf34, rf35, rf36, rf37, rf38, rf39, rf40, rf41, rf42, rf43, rf44, rf45, g1, g2, q1, q2]
            · simp [runFn, sxs_cons, sxs_nil, sx_asg, sx_asgT, sx_alloc, sx_par, sx_if, sx_retV, ret_tup, evn_tup, ret_lst, evn_lst, ret_bin, evn_bin, ret_neg, evn_neg, ret_not, evn_not, ret_cmp, evn_cmp, ret_chain, evn_chain, ret_and, evn_and, ret_or, evn_or, ret_ite, evn_ite, ret_ix, evn_ix, ret_sl, evn_sl, ret_bf, evn_bf, ret_met, evn_met, ret_comp, evn_comp, ret_cst, evn_cst, ret_call, sx_expr, sx_aug, sx_brk, sx_cnt, ev_var, ev_cst, ev_tup, ev_lst, ev_bin, ev_neg, ev_not, ev_cmp, ev_chain, ev_and, ev_or, ev_ite, ev_ix, ev_sl, ev_back, ev_call, ev_bf, ev_met, evn_call, evns, evs, evp, evt, own, setAll, callC, derefs, isRef, op1, op2, dt, vd, vb, Cr.part, intD, deref, items_list, items_tuple, Cr.ixN, ix_tup, ix_list, ix_fr0, ix_fr1, ix_sp0, ix_sp1, ix_gsp0, ix_gsp1, items_fr, items_sp, items_rg, cmp_eqF, cmp_neF, binD, tru_int, tru_bool, bd_nm, bd_tup, bds_nil, bds_cons, frz, frzV, isNew, bfD, metS, metD, isLst, cmp_eqI, cmp_neI, cmp_ltI, cmp_leI, cmp_gtI, cmp_geI, cmp_isNone, cmp_isNoneT, cmp_notNone, cmp_notNoneT, cmp_notB, cmp_isB, cmp_neB, cmp_eqB, bd_sp, bd_gsp, bd_pkd, items_gsp, rf0, rf1, rf2, rf3, rf4, rf5, rf6, rf7, rf8, rf9, rf10, rf11, rf12, rf13, rf14, rf15, rf16, rf17, rf18, rf19, rf20, rf21, rf22, rf23, rf24, rf25, rf26, rf27, rf28, rf29, rf30, rf31, rf32, rf33, rf34, rf35, rf36, rf37, rf38, rf39, rf40, rf41, rf42, rf43, rf44, rf45, g1, q1]
    have loopr : ∀ (A B : Pt) (zA : szp (m + q + z) A) (zB : szp (m + q + z) B) (hp : 0 < B.1 - A.1) (hbc : ∀ c, barC h x s c = (decide (A.1 < c.1) && decide (c.1 < B.1) && decide ((B.2 - A.2) * (c.1 - A.1) < (B.1 - A.1) * (c.2 - A.2)))),
        ∃ o', sx ⟨G.refs, G.orc (d + 5)⟩ 0 (.sfor (.nm 7) (.var 0) [.sif (.and (.call 31 [(.ix (.var 5) (.cst (.int 0))), (.ix (.var 7) (.cst (.int 0)))]) (.and (.call 31 [(.ix (.var 7) (.cst (.int 0))), (.ix (.var 6) (.cst (.int 0)))]) (.call 37 [(.var 5), (.var 6), (.var 7)]))) [.ret (.cst (.bool false))] []]) [some (.d (rg r)), some (.d (fr h)), some (.d (fr x)), some (.d (sp s)), some (.d (sp (x, h))), some (.d (sp A)), some (.d (sp B)), none] [] = some (if seesB r h x s = false then .rt (.bool false) false [] else .nx [some (.d (rg r)), some (.d (fr h)), some (.d (fr x)), some (.d (sp s)), some (.d (sp (x, h))), some (.d (sp A)), some (.d (sp B)), o'] []) := by
      intro A B zA zB hp hbc
      obtain ⟨o', e⟩ := key A B zA zB hp (barC h x s) hbc (still (.d (rg r)) (r.map sp)) (fun _ => trivial) r none zr
      refine ⟨o', ?_⟩
      have he : evi ⟨G.refs, G.orc (d + 5)⟩ (.var 0) [some (.d (rg r)), some (.d (fr h)), some (.d (fr x)), some (.d (sp s)), some (.d (sp (x, h))), some (.d (sp A)), some (.d (sp B)), none] [] = some ((r.map sp, still (.d (rg r)) (r.map sp)), []) := by
        simp [evi, itV, ev_var, deref, items_rg]
      have eb : (r.any (barC h x s) = true) ↔ (seesB r h x s = false) := by
        rw [← Bool.not_eq_true, seesB_iff]
        simp [e0]
      rw [sx_for, he]
      show forL _ _ _ _ _ = _
      rw [e]
      by_cases c : r.any (barC h x s) = true
      · rw [if_pos c, if_pos (eb.mp c)]
      · rw [if_neg c, if_neg fun q => c (eb.mpr q)]
    have zd : szp (m + q + z) (x, h) := ⟨zx.mono (by omega), zh.mono (by omega)⟩
    have zs' : szp (m + q + z) s := ⟨zs.1.mono (by omega), zs.2.mono (by omega)⟩
    by_cases c : x < s.1
    · have hp : 0 < s.1 - (x, h).1 := by show 0 < s.1 - x; grind
      obtain ⟨o', hfor⟩ := loopr (x, h) s zd zs' hp fun c' => by
        unfold barC
        rw [if_pos c]
        congr 1
        exact decide_eq_decide.mpr (under_iff hp)
      by_cases w : seesB r h x s = false
      · rw [if_pos w] at hfor
        simp [b38, runFn, sxs_cons, sxs_nil, sx_asg, sx_asgT, sx_alloc, sx_par, sx_if, sx_retV, ret_tup, evn_tup, ret_lst, evn_lst, ret_bin, evn_bin, ret_neg, evn_neg, ret_not, evn_not, ret_cmp, evn_cmp, ret_chain, evn_chain, ret_and, evn_and, ret_or, evn_or, ret_ite, evn_ite, ret_ix, evn_ix, ret_sl, evn_sl, ret_bf, evn_bf, ret_met, evn_met, ret_comp, evn_comp, ret_cst, evn_cst, ret_call, sx_expr, sx_aug, sx_brk, sx_cnt, ev_var, ev_cst, ev_tup, ev_lst, ev_bin, ev_neg, ev_not, ev_cmp, ev_chain, ev_and, ev_or, ev_ite, ev_ix, ev_sl, ev_back, ev_call, ev_bf, ev_met, evn_call, evns, evs, evp, evt, own, setAll, callC, derefs, isRef, op1, op2, dt, vd, vb, Cr.part, intD, deref, items_list, items_tuple, Cr.ixN, ix_tup, ix_list, ix_fr0, ix_fr1, ix_sp0, ix_sp1, ix_gsp0, ix_gsp1, items_fr, items_sp, items_rg, cmp_eqF, cmp_neF, binD, tru_int, tru_bool, bd_nm, bd_tup, bds_nil, bds_cons, frz, frzV, isNew, bfD, metS, metD, isLst, cmp_eqI, cmp_neI, cmp_ltI, cmp_leI, cmp_gtI, cmp_geI, cmp_isNone, cmp_isNoneT, cmp_notNone, cmp_notNoneT, cmp_notB, cmp_isB, cmp_neB, cmp_eqB, bd_sp, bd_gsp, bd_pkd, items_gsp, rf0, rf1, rf2, rf3, rf4, rf5, rf6, rf7, rf8, rf9, rf10, rf11, rf12, rf13, rf14, rf15, rf16, rf17, rf18, rf19, rf20, rf21, rf22, rf23, rf24, rf25, rf26, rf27, rf28, rf29, rf30, rf31, rf32, rf33, rf34, rf35, rf36, rf37, rf38, rf39, rf40, rf41, rf42, rf43, rf44, rf45, line, sp_fold, e0, f2, c, hfor, w]
      · rw [if_neg w] at hfor
        simp at w
        simp [b38, runFn, sxs_cons, sxs_nil, sx_asg, sx_asgT, sx_alloc, sx_par, sx_if, sx_retV, ret_tup, evn_tup, ret_lst, evn_lst, ret_bin, evn_bin, ret_neg, evn_neg, ret_not, evn_not, ret_cmp, evn_cmp, ret_chain, evn_chain, ret_and, evn_and, ret_or, evn_or, ret_ite, evn_ite, ret_ix, evn_ix, ret_sl, evn_sl, ret_bf, evn_bf, ret_met, evn_met, ret_comp, evn_comp, ret_cst, evn_cst, ret_call, sx_expr, sx_aug, sx_brk, sx_cnt, ev_var, ev_cst, ev_tup, ev_lst, ev_bin, ev_neg, ev_not, ev_cmp, ev_chain, ev_and, ev_or, ev_ite, ev_ix, ev_sl, ev_back, ev_call, ev_bf, ev_met, evn_call, evns, evs, evp, evt, own, setAll, callC, derefs, isRef, op1, op2, dt, vd, vb, Cr.part, intD, deref, items_list, items_tuple, Cr.ixN, ix_tup, ix_list, ix_fr0, ix_fr1, ix_sp0, ix_sp1, ix_gsp0, ix_gsp1, items_fr, items_sp, items_rg, cmp_eqF, cmp_neF, binD, tru_int, tru_bool, bd_nm, bd_tup, bds_nil, bds_cons, frz, frzV, isNew, bfD, metS, metD, isLst, cmp_eqI, cmp_neI, cmp_ltI, cmp_leI, cmp_gtI, cmp_geI, cmp_isNone, cmp_isNoneT, cmp_notNone, cmp_notNoneT, cmp_notB, cmp_isB, cmp_neB, cmp_eqB, bd_sp, bd_gsp, bd_pkd, items_gsp, rf0, rf1, rf2, rf3, rf4, rf5, rf6, rf7, rf8, rf9, rf10, rf11, rf12, rf13, rf14, rf15, rf16, rf17, rf18, rf19, rf20, rf21, rf22, rf23, rf24, rf25, rf26, rf27, rf28, rf29, rf30, rf31, rf32, rf33, rf34, rf35, rf36, rf37, rf38, rf39, rf40, rf41, rf42, rf43, rf44, rf45, line, sp_fold, e0, f2, c, hfor, w]
    · have hp : 0 < (x, h).1 - s.1 := by show 0 < x - s.1; grind
      obtain ⟨o', hfor⟩ := loopr s (x, h) zs' zd hp fun c' => by
        unfold barC
        rw [if_neg c]
        congr 1
        exact decide_eq_decide.mpr (under_iff' hp)
      by_cases w : seesB r h x s = false
      · rw [if_pos w] at hfor
        simp [b38, runFn, sxs_cons, sxs_nil, sx_asg, sx_asgT, sx_alloc, sx_par, sx_if, sx_retV, ret_tup, evn_tup, ret_lst, evn_lst, ret_bin, evn_bin, ret_neg, evn_neg, ret_not, evn_not, ret_cmp, evn_cmp, ret_chain, evn_chain, ret_and, evn_and, ret_or, evn_or, ret_ite, evn_ite, ret_ix, evn_ix, ret_sl, evn_sl, ret_bf, evn_bf, ret_met, evn_met, ret_comp, evn_comp, ret_cst, evn_cst, ret_call, sx_expr, sx_aug, sx_brk, sx_cnt, ev_var, ev_cst, ev_tup, ev_lst, ev_bin, ev_neg, ev_not, ev_cmp, ev_chain, ev_and, ev_or, ev_ite, ev_ix, ev_sl, ev_back, ev_call, ev_bf, ev_met, evn_call, evns, evs, evp, evt, own, setAll, callC, derefs, isRef, op1, op2, dt, vd, vb, Cr.part, intD, deref, items_list, items_tuple, Cr.ixN, ix_tup, ix_list, ix_fr0, ix_fr1, ix_sp0, ix_sp1, ix_gsp0, ix_gsp1, items_fr, items_sp, items_rg, cmp_eqF, cmp_neF, binD, tru_int, tru_bool, bd_nm, bd_tup, bds_nil, bds_cons, frz, frzV, isNew, bfD, metS, metD, isLst, cmp_eqI, cmp_neI, cmp_ltI, cmp_leI, cmp_gtI, cmp_geI, cmp_isNone, cmp_isNoneT, cmp_notNone, cmp_notNoneT, cmp_notB, cmp_isB, cmp_neB, cmp_eqB, bd_sp, bd_gsp, bd_pkd, items_gsp, rf0, rf1, rf2, rf3, rf4, rf5, rf6, rf7, rf8, rf9, rf10, rf11, rf12, rf13, rf14, rf15, rf16, rf17, rf18, rf19, rf20, rf21, rf22, rf23, rf24, rf25, rf26, rf27, rf28, rf29, rf30, rf31, rf32, rf33, rf34, rf35, rf36, rf37, rf38, rf39, rf40, rf41, rf42, rf43, rf44, rf45, line, sp_fold, e0, f2, c, hfor, w]
      · rw [if_neg w] at hfor
        simp at w
        simp [b38, runFn, sxs_cons, sxs_nil, sx_asg, sx_asgT, sx_alloc, sx_par, sx_if, sx_retV, ret_tup, evn_tup, ret_lst, evn_lst, ret_bin, evn_bin, ret_neg, evn_neg, ret_not, evn_not, ret_cmp, evn_cmp, ret_chain, evn_chain, ret_and, evn_and, ret_or, evn_or, ret_ite, evn_ite, ret_ix, evn_ix, ret_sl, evn_sl, ret_bf, evn_bf, ret_met, evn_met, ret_comp, evn_comp, ret_cst, evn_cst, ret_call, sx_expr, sx_aug, sx_brk, sx_cnt, ev_var, ev_cst, ev_tup, ev_lst, ev_bin, ev_neg, ev_not, ev_cmp, ev_chain, ev_and, ev_or, ev_ite, ev_ix, ev_sl, ev_back, ev_call, ev_bf, ev_met, evn_call, evns, evs, evp, evt, own, setAll, callC, derefs, isRef, op1, op2, dt, vd, vb, Cr.part, intD, deref, items_list, items_tuple, Cr.ixN, ix_tup, ix_list, ix_fr0, ix_fr1, ix_sp0, ix_sp1, ix_gsp0, ix_gsp1, items_fr, items_sp, items_rg, cmp_eqF, cmp_neF, binD, tru_int, tru_bool, bd_nm, bd_tup, bds_nil, bds_cons, frz, frzV, isNew, bfD, metS, metD, isLst, cmp_eqI, cmp_neI, cmp_ltI, cmp_leI, cmp_gtI, cmp_geI, cmp_isNone, cmp_isNoneT, cmp_notNone, cmp_notNoneT, cmp_notB, cmp_isB, cmp_neB, cmp_eqB, bd_sp, bd_gsp, bd_pkd, items_gsp, rf0, rf1, rf2, rf3, rf4, rf5, rf6, rf7, rf8, rf9, rf10, rf11, rf12, rf13, rf14, rf15, rf16, rf17, rf18, rf19, rf20, rf21, rf22, rf23, rf24, rf25, rf26, rf27, rf28, rf29, rf30, rf31, rf32, rf33, rf34, rf35, rf36, rf37, rf38, rf39, rf40, rf41, rf42, rf43, rf44, rf45, line, sp_fold, e0, f2, c, hfor, w]
/-! ### the law's own reach -/
theorem run_law_reach (d : Nat) {n q z : Nat} {r : List Pt} {h : Rat} {s : Pt} (h0 : r ≠ []) (zr : ∀ c ∈ r, szp n c) (zs : szp z s) (zh : sz q h) (hr : r.length ≤ 1000) (h1 : 4 * n + 8 * z + 2 * q + 20 ≤ 8192) :
    G.orc (d + 5) 39 [.d (rg r), .d (fr h), .d (sp s)] [] = some (sp (lo r h s, hi r h s), false, []) := by
  rw [orc_fn (d + 4) pg39]
  obtain ⟨u, hu⟩ : ∃ u, r.head? = some u := by cases r with | nil => exact absurd rfl h0 | cons u _ => exact ⟨u, rfl⟩
  obtain ⟨v, hv⟩ : ∃ v, r.getLast? = some v := by cases r with | nil => exact absurd rfl h0 | cons u _ => exact ⟨_, List.getLast?_eq_some_getLast (List.cons_ne_nil _ _)⟩
  have zu := zr u (List.mem_of_mem_head? hu)
  have zv := zr v (List.mem_of_getLast? hv)
  have f0 := run_law_less d zh zs.2 (by omega)
  have key : ∀ (g : Store → Prop) (hg : ∀ S, g S) (cs : List Pt) (A B : List PyData) (o6 o7 o8 : Option PV), (∀ c ∈ cs, szp n c) → A.length + cs.length ≤ 2000 → B.length + cs.length ≤ 2000 →
      ∃ p6 p7 p8, forL g (fun (y : PyData) (ρ : Ev) (S : Store) => (bd (.tup [(.nm 6), (.nm 7)]) y ρ).bind fun ρ1 => sxs ⟨G.refs, G.orc (d + 4)⟩ 0 [.sif (.and (.call 31 [(.ix (.var 2) (.cst (.int 1))), (.var 7)]) (.cmp .ne (.var 6) (.ix (.var 2) (.cst (.int 0))))) [.asg (.nm 8) (.call 28 [(.ix (.var 2) (.cst (.int 0))), (.call 32 [(.call 29 [(.var 5), (.call 30 [(.var 6), (.ix (.var 2) (.cst (.int 0)))])]), (.call 30 [(.var 7), (.ix (.var 2) (.cst (.int 1)))])])]), .sif (.call 31 [(.ix (.var 2) (.cst (.int 0))), (.var 6)]) [.expr (.met .append (.var 4) [(.var 8)])] [.expr (.met .append (.var 3) [(.var 8)])]] []] ρ1 S) (cs.map sp)
        [some (.d (rg r)), some (.d (fr h)), some (.d (sp s)), some (.r 0), some (.r 1), some (.d (fr (h - s.2))), o6, o7, o8] [.lst A, .lst B] =
        some (.nx [some (.d (rg r)), some (.d (fr h)), some (.d (sp s)), some (.r 0), some (.r 1), some (.d (fr (h - s.2))), p6, p7, p8] [.lst (A ++ ((cs.filter (leftC s)).map fun c => fr (plc s c h))), .lst (B ++ ((cs.filter (rightC s)).map fun c => fr (plc s c h)))]) := by
    intro g hg cs
    induction cs with
    | nil => intro A B o6 o7 o8 _ _ _; exact ⟨o6, o7, o8, by simp [forL_nil (hg _)]⟩
    | cons c cs ih =>
      intro A B o6 o7 o8 hc hA hB
      have zc := hc c List.mem_cons_self
      simp only [List.length_cons] at hA hB
      have lA : A.length < 16777216 := by omega
      have lB : B.length < 16777216 := by omega
      have g1 := run_law_below (d + 3) zs.2 zc.2 (by omega) (by omega)
      have g3 := run_law_below (d + 3) zs.1 zc.1 (by omega) (by omega)
      rw [List.map_cons]
      by_cases q1 : s.2 < c.2
      · have hd0 : c.2 - s.2 ≠ 0 := by grind
        have k1 := run_law_less d zc.1 zs.1 (by omega)
        have k2 := run_law_times (d + 1) (sz_sub zh zs.2) (sz_sub zc.1 zs.1) (by omega)
        have k3 := run_law_less d zc.2 zs.2 (by omega)
        have k4 := run_law_over (d + 1) (sz_mul (sz_sub zh zs.2) (sz_sub zc.1 zs.1)) (sz_sub zc.2 zs.2) hd0 (by omega)
        have k5 := run_law_sum (d + 1) zs.1 (sz_quo (sz_mul (sz_sub zh zs.2) (sz_sub zc.1 zs.1)) (sz_sub zc.2 zs.2) hd0) (by omega)
        rw [plc_law hd0] at k5
        by_cases q2 : c.1 = s.1
        · have l1 : leftC s c = false := by simp [leftC, q2, Rat.lt_irrefl]
          have l2 : rightC s c = false := by simp [rightC, q2, Rat.lt_irrefl]
          obtain ⟨p6, p7, p8, e⟩ := ih A B (some (.d (fr c.1))) (some (.d (fr c.2))) o8 (fun w hw => hc w (List.mem_cons_of_mem _ hw)) (by omega) (by omega)
          refine ⟨p6, p7, p8, ?_⟩
          rw [forL_cons (hg _) (ρ' := [some (.d (rg r)), some (.d (fr h)), some (.d (sp s)), some (.r 0), some (.r 1), some (.d (fr (h - s.2))), some (.d (fr c.1)), some (.d (fr c.2)), o8]) (S' := [.lst A, .lst B]) ?_, e]
          · simp [l1, l2]
          · have q2' : decide (c.1 = s.1) = true := decide_eq_true q2
            have ne := cmp_neF c.1 s.1
            rw [q2'] at ne
            simp [runFn, sxs_cons, sxs_nil, sx_asg, sx_asgT, sx_alloc, sx_par, sx_if, sx_retV, ret_tup, evn_tup, ret_lst, evn_lst, ret_bin, evn_bin, ret_neg, evn_neg, ret_not, evn_not, ret_cmp, evn_cmp, ret_chain, evn_chain, ret_and, evn_and, ret_or, evn_or, ret_ite, evn_ite, ret_ix, evn_ix, ret_sl, evn_sl, ret_bf, evn_bf, ret_met, evn_met, ret_comp, evn_comp, ret_cst, evn_cst, ret_call, sx_expr, sx_aug, sx_brk, sx_cnt, ev_var, ev_cst, ev_tup, ev_lst, ev_bin, ev_neg, ev_not, ev_cmp, ev_chain, ev_and, ev_or, ev_ite, ev_ix, ev_sl, ev_back, ev_call, ev_bf, ev_met, evn_call, evns, evs, evp, evt, own, setAll, callC, derefs, isRef, op1, op2, dt, vd, vb, Cr.part, intD, deref, items_list, items_tuple, Cr.ixN, ix_tup, ix_list, ix_fr0, ix_fr1, ix_sp0, ix_sp1, ix_gsp0, ix_gsp1, items_fr, items_sp, items_rg, cmp_eqF, cmp_neF, binD, tru_int, tru_bool, bd_nm, bd_tup, bds_nil, bds_cons, frz, frzV, isNew, bfD, metS, metD, isLst, cmp_eqI, cmp_neI, cmp_ltI, cmp_leI, cmp_gtI, cmp_geI, cmp_isNone, cmp_isNoneT, cmp_notNone, cmp_notNoneT, cmp_notB, cmp_isB, cmp_neB, cmp_eqB, bd_sp, bd_gsp, bd_pkd, items_gsp, rf0, rf1, rf2, rf3, rf4, rf5, rf6, rf7, rf8, rf9, rf10, rf11, rf12, rf13, rf14, rf15, rf16, rf17, rf18, rf19, rf20, rf21, rf22, rf23, rf24, rf25, rf26, rf27, rf28, rf29, rf30, rf31, rf32, rf33, rf34, rf35, rf36, rf37, rf38, rf39, rf40, rf41, rf42, rf43, rf44, rf45, g1, q1, ne]
        · by_cases q3 : s.1 < c.1
          · have l1 : leftC s c = false := by
              have : ¬ c.1 < s.1 := by grind
              simp [leftC, this]
            have l2 : rightC s c = true := by simp [rightC, q1, q3]
            obtain ⟨p6, p7, p8, e⟩ := ih A (B ++ [fr (plc s c h)]) (some (.d (fr c.1))) (some (.d (fr c.2))) (some (.d (fr (plc s c h)))) (fun w hw => hc w (List.mem_cons_of_mem _ hw)) (by omega) (by simp; omega)
            refine ⟨p6, p7, p8, ?_⟩
            rw [forL_cons (hg _) (ρ' := [some (.d (rg r)), some (.d (fr h)), some (.d (sp s)), some (.r 0), some (.r 1), some (.d (fr (h - s.2))), some (.d (fr c.1)), some (.d (fr c.2)), some (.d (fr (plc s c h)))]) (S' := [.lst A, .lst (B ++ [fr (plc s c h)])]) ?_, e]
            · simp [l1, l2]
            · simp [runFn, sxs_cons, sxs_nil, sx_asg, sx_asgT, sx_alloc, sx_par, sx_if, sx_retV, ret_tup, evn_tup, ret_lst, evn_lst, ret_bin, evn_bin, ret_neg, evn_neg, ret_not, evn_not, ret_cmp, evn_cmp, ret_chain, evn_chain, ret_and, evn_and, ret_or, evn_or, ret_ite, evn_ite, ret_ix, evn_ix, ret_sl, evn_sl, ret_bf, evn_bf, ret_met, evn_met, ret_comp, evn_comp, ret_cst, evn_cst, ret_call, sx_expr, sx_aug, sx_brk, sx_cnt, ev_var, ev_cst, ev_tup, ev_lst, ev_bin, ev_neg, ev_not, ev_cmp, ev_chain, ev_and, ev_or, ev_ite, ev_ix, ev_sl, ev_back, ev_call, ev_bf, ev_met, evn_call, evns, evs, evp, evt, own, setAll, callC, derefs, isRef, op1, op2, dt, vd, vb, Cr.part, intD, deref, items_list, items_tuple, Cr.ixN, ix_tup, ix_list, ix_fr0, ix_fr1, ix_sp0, ix_sp1, ix_gsp0, ix_gsp1, items_fr, items_sp, items_rg, cmp_eqF, cmp_neF, binD, tru_int, tru_bool, bd_nm, bd_tup, bds_nil, bds_cons, frz, frzV, isNew, bfD, metS, metD, isLst, cmp_eqI, cmp_neI, cmp_ltI, cmp_leI, cmp_gtI, cmp_geI, cmp_isNone, cmp_isNoneT, cmp_notNone, cmp_notNoneT, cmp_notB, cmp_isB, cmp_neB, cmp_eqB, bd_sp, bd_gsp, bd_pkd, items_gsp, rf0, rf1, rf2, rf3, rf4, rf5, rf6, rf7, rf8, rf9, rf10, rf11, rf12, rf13, rf14, rf15, rf16, rf17, rf18, rf19, rf20, rf21, rf22, rf23, rf24, rf25, rf26, rf27, rf28, rf29, rf30, rf31, rf32, rf33, rf34, rf35, rf36, rf37, rf38, rf39, rf40, rf41, rf42, rf43, rf44, rf45, g1, g3, k1, k2, k3, k4, k5, q1, q2, q3, lB, line]
          · have l1 : leftC s c = true := by
              have : c.1 < s.1 := by grind
              simp [leftC, q1, this]
            have l2 : rightC s c = false := by simp [rightC, q3]
            obtain ⟨p6, p7, p8, e⟩ := ih (A ++ [fr (plc s c h)]) B (some (.d (fr c.1))) (some (.d (fr c.2))) (some (.d (fr (plc s c h)))) (fun w hw => hc w (List.mem_cons_of_mem _ hw)) (by simp; omega) (by omega)
            refine ⟨p6, p7, p8, ?_⟩
            rw [forL_cons (hg _) (ρ' := [some (.d (rg r)), some (.d (fr h)), some (.d (sp s)), some (.r 0), some (.r 1), some (.d (fr (h - s.2))), some (.d (fr c.1)), some (.d (fr c.2)), some (.d (fr (plc s c h)))]) (S' := [.lst (A ++ [fr (plc s c h)]), .lst B]) ?_, e]
            · simp [l1, l2]
            · simp [runFn, sxs_cons, sxs_nil, sx_asg, sx_asgT, sx_alloc, sx_par, sx_if, sx_retV, ret_tup, evn_tup, ret_lst, evn_lst, ret_bin, evn_bin, ret_neg, evn_neg, ret_not, evn_not, ret_cmp, evn_cmp, ret_chain, evn_chain, ret_and, evn_and, ret_or, evn_or, ret_ite, evn_ite, ret_ix, evn_ix, ret_sl, evn_sl, ret_bf, evn_bf, ret_met, evn_met, ret_comp, evn_comp, ret_cst, evn_cst, ret_call, sx_expr, sx_aug, sx_brk, sx_cnt, ev_var, ev_cst, ev_tup, ev_lst, ev_bin, ev_neg, ev_not, ev_cmp, ev_chain, ev_and, ev_or, ev_ite, ev_ix, ev_sl, ev_back, ev_call, ev_bf, ev_met, evn_call, evns, evs, evp, evt, own, setAll, callC, derefs, isRef, op1, op2, dt, vd, vb, Cr.part, intD, deref, items_list, items_tuple, Cr.ixN, ix_tup, ix_list, ix_fr0, ix_fr1, ix_sp0, ix_sp1, ix_gsp0, ix_gsp1, items_fr, items_sp, items_rg, cmp_eqF, cmp_neF, binD, tru_int, tru_bool, bd_nm, bd_tup, bds_nil, bds_cons, frz, frzV, isNew, bfD, metS, metD, isLst, cmp_eqI, cmp_neI, cmp_ltI, cmp_leI, cmp_gtI, cmp_geI, cmp_isNone, cmp_isNoneT, cmp_notNone, cmp_notNoneT, cmp_notB, cmp_isB, cmp_neB, cmp_eqB, bd_sp, bd_gsp, bd_pkd, items_gsp, rf0, rf1, rf2, rf3, rf4, rf5, rf6, rf7, rf8, rf9, rf10, rf11, rf12, rf13, rf14, rf15, rf16, rf17, rf18, rf19, rf20, rf21, rf22, rf23, rf24, rf25, rf26, rf27, rf28, rf29, rf30, rf31, rf32, rf33, rf34, rf35, rf36, rf37, rf38, rf39, rf40, rf41, rf42, rf43, rf44, rf45, g1, g3, k1, k2, k3, k4, k5, q1, q2, q3, lA, line]
      · have l1 : leftC s c = false := by simp [leftC, q1]
        have l2 : rightC s c = false := by simp [rightC, q1]
        obtain ⟨p6, p7, p8, e⟩ := ih A B (some (.d (fr c.1))) (some (.d (fr c.2))) o8 (fun w hw => hc w (List.mem_cons_of_mem _ hw)) (by omega) (by omega)
        refine ⟨p6, p7, p8, ?_⟩
        rw [forL_cons (hg _) (ρ' := [some (.d (rg r)), some (.d (fr h)), some (.d (sp s)), some (.r 0), some (.r 1), some (.d (fr (h - s.2))), some (.d (fr c.1)), some (.d (fr c.2)), o8]) (S' := [.lst A, .lst B]) ?_, e]
        · simp [l1, l2]
        · simp [runFn, sxs_cons, sxs_nil, sx_asg, sx_asgT, sx_alloc, sx_par, sx_if, sx_retV, ret_tup, evn_tup, ret_lst, evn_lst, ret_bin, evn_bin, ret_neg, evn_neg, ret_not, evn_not, ret_cmp, evn_cmp, ret_chain, evn_chain, ret_and, evn_and, ret_or, evn_or, ret_ite, evn_ite, ret_ix, evn_ix, ret_sl, evn_sl, ret_bf, evn_bf, ret_met, evn_met, ret_comp, evn_comp, ret_cst, evn_cst, ret_call, sx_expr, sx_aug, sx_brk, sx_cnt, ev_var, ev_cst, ev_tup, ev_lst, ev_bin, ev_neg, ev_not, ev_cmp, ev_chain, ev_and, ev_or, ev_ite, ev_ix, ev_sl, ev_back, ev_call, ev_bf, ev_met, evn_call, evns, evs, evp, evt, own, setAll, callC, derefs, isRef, op1, op2, dt, vd, vb, Cr.part, intD, deref, items_list, items_tuple, Cr.ixN, ix_tup, ix_list, ix_fr0, ix_fr1, ix_sp0, ix_sp1, ix_gsp0, ix_gsp1, items_fr, items_sp, items_rg, cmp_eqF, cmp_neF, binD, tru_int, tru_bool, bd_nm, bd_tup, bds_nil, bds_cons, frz, frzV, isNew, bfD, metS, metD, isLst, cmp_eqI, cmp_neI, cmp_ltI, cmp_leI, cmp_gtI, cmp_geI, cmp_isNone, cmp_isNoneT, cmp_notNone, cmp_notNoneT, cmp_notB, cmp_isB, cmp_neB, cmp_eqB, bd_sp, bd_gsp, bd_pkd, items_gsp, rf0, rf1, rf2, rf3, rf4, rf5, rf6, rf7, rf8, rf9, rf10, rf11, rf12, rf13, rf14, rf15, rf16, rf17, rf18, rf19, rf20, rf21, rf22, rf23, rf24, rf25, rf26, rf27, rf28, rf29, rf30, rf31, rf32, rf33, rf34, rf35, rf36, rf37, rf38, rf39, rf40, rf41, rf42, rf43, rf44, rf45, g1, q1]
  obtain ⟨p6, p7, p8, e⟩ := key (still (.d (rg r)) (r.map sp)) (fun _ => trivial) r [fr u.1] [fr v.1] none none none zr (by simp; omega) (by simp; omega)
  have hfor : sx ⟨G.refs, G.orc (d + 4)⟩ 0 (.sfor (.tup [(.nm 6), (.nm 7)]) (.var 0) [.sif (.and (.call 31 [(.ix (.var 2) (.cst (.int 1))), (.var 7)]) (.cmp .ne (.var 6) (.ix (.var 2) (.cst (.int 0))))) [.asg (.nm 8) (.call 28 [(.ix (.var 2) (.cst (.int 0))), (.call 32 [(.call 29 [(.var 5), (.call 30 [(.var 6), (.ix (.var 2) (.cst (.int 0)))])]), (.call 30 [(.var 7), (.ix (.var 2) (.cst (.int 1)))])])]), .sif (.call 31 [(.ix (.var 2) (.cst (.int 0))), (.var 6)]) [.expr (.met .append (.var 4) [(.var 8)])] [.expr (.met .append (.var 3) [(.var 8)])]] []]) [some (.d (rg r)), some (.d (fr h)), some (.d (sp s)), some (.r 0), some (.r 1), some (.d (fr (h - s.2))), none, none, none] [.lst [fr u.1], .lst [fr v.1]] =
      some (.nx [some (.d (rg r)), some (.d (fr h)), some (.d (sp s)), some (.r 0), some (.r 1), some (.d (fr (h - s.2))), p6, p7, p8] [.lst ((u.1 :: (r.filter (leftC s)).map fun c => plc s c h).map fr), .lst ((v.1 :: (r.filter (rightC s)).map fun c => plc s c h).map fr)]) := by
    have he : evi ⟨G.refs, G.orc (d + 4)⟩ (.var 0) [some (.d (rg r)), some (.d (fr h)), some (.d (sp s)), some (.r 0), some (.r 1), some (.d (fr (h - s.2))), none, none, none] [.lst [fr u.1], .lst [fr v.1]] = some ((r.map sp, still (.d (rg r)) (r.map sp)), [.lst [fr u.1], .lst [fr v.1]]) := by
      simp [evi, itV, ev_var, deref, items_rg]
    rw [sx_for, he]
    show forL _ _ _ _ _ = _
    rw [e]
    simp
  have zp : ∀ p : Pt → Bool, (∀ c, p c = true → s.2 < c.2) → ∀ y ∈ (r.filter p).map fun c => plc s c h, sz (4 * z + 2 * n + q + 4) y := fun p hp y hy => by
    obtain ⟨c, hc, rfl⟩ := List.mem_map.mp hy
    obtain ⟨hc1, hc2⟩ := List.mem_filter.mp hc
    have := hp c hc2
    exact sz_plc zs (zr c hc1) zh (by grind)
  have zl := zp (leftC s) fun c hc => by simp [leftC] at hc; exact hc.1
  have zi := zp (rightC s) fun c hc => by simp [rightC] at hc; exact hc.1
  have f2 := run_law_most (d + 2) (D := .list ((u.1 :: (r.filter (leftC s)).map fun c => plc s c h).map fr)) (x := u.1) (xs := (r.filter (leftC s)).map fun c => plc s c h) rfl (fun y hy => (List.mem_cons.mp hy).elim (fun e => e ▸ zu.1.mono (by omega)) fun hy => zl y hy) (by omega)
  have f3 := run_law_least (d + 2) (D := .list ((v.1 :: (r.filter (rightC s)).map fun c => plc s c h).map fr)) (x := v.1) (xs := (r.filter (rightC s)).map fun c => plc s c h) rfl (fun y hy => (List.mem_cons.mp hy).elim (fun e => e ▸ zv.1.mono (by omega)) fun hy => zi y hy) (by omega)
  have e1 : lo r h s = maxL (u.1 :: (r.filter (leftC s)).map fun c => plc s c h) := by unfold lo; rw [firstX_of hu]
  have e2 : hi r h s = minL (v.1 :: (r.filter (rightC s)).map fun c => plc s c h) := by unfold hi; rw [lastX_of hv]
  rw [e1, e2]
  generalize ((r.filter (leftC s)).map fun c => plc s c h) = L at *
  generalize ((r.filter (rightC s)).map fun c => plc s c h) = R at *
  simp only [List.map_cons] at hfor f2 f3
  simp [b39, runFn, sxs_cons, sxs_nil, sx_asg, sx_asgT, sx_alloc, sx_par, sx_if, sx_retV, ret_tup, evn_tup, ret_lst, evn_lst, ret_bin, evn_bin, ret_neg, evn_neg, ret_not, evn_not, ret_cmp, evn_cmp, ret_chain, evn_chain, ret_and, evn_and, ret_or, evn_or, ret_ite, evn_ite, ret_ix, evn_ix, ret_sl, evn_sl, ret_bf, evn_bf, ret_met, evn_met, ret_comp, evn_comp, ret_cst, evn_cst, ret_call, sx_expr, sx_aug, sx_brk, sx_cnt, ev_var, ev_cst, ev_tup, ev_lst, ev_bin, ev_neg, ev_not, ev_cmp, ev_chain, ev_and, ev_or, ev_ite, ev_ix, ev_sl, ev_back, ev_call, ev_bf, ev_met, evn_call, evns, evs, evp, evt, own, setAll, callC, derefs, isRef, op1, op2, dt, vd, vb, Cr.part, intD, deref, items_list, items_tuple, Cr.ixN, ix_tup, ix_list, ix_fr0, ix_fr1, ix_sp0, ix_sp1, ix_gsp0, ix_gsp1, items_fr, items_sp, items_rg, cmp_eqF, cmp_neF, binD, tru_int, tru_bool, bd_nm, bd_tup, bds_nil, bds_cons, frz, frzV, isNew, bfD, metS, metD, isLst, cmp_eqI, cmp_neI, cmp_ltI, cmp_leI, cmp_gtI, cmp_geI, cmp_isNone, cmp_isNoneT, cmp_notNone, cmp_notNoneT, cmp_notB, cmp_isB, cmp_neB, cmp_eqB, bd_sp, bd_gsp, bd_pkd, items_gsp, rf0, rf1, rf2, rf3, rf4, rf5, rf6, rf7, rf8, rf9, rf10, rf11, rf12, rf13, rf14, rf15, rf16, rf17, rf18, rf19, rf20, rf21, rf22, rf23, rf24, rf25, rf26, rf27, rf28, rf29, rf30, rf31, rf32, rf33, rf34, rf35, rf36, rf37, rf38, rf39, rf40, rf41, rf42, rf43, rf44, rf45, rg_head hu, rg_last hv, f0, hfor, f2, f3, line, sp_fold]
/-! ### several spots -/
theorem run_reachR (d : Nat) {n k q : Nat} {r : List Pt} {g : Nat × Rat} {h : Rat} (hg : GOk r k g) (zr : ∀ c ∈ r, szp n c) (zh : sz q h) (hr : r.length ≤ 1000) (h1 : 20 * n + 4 * k + 4 * q + 50 ≤ 8192) :
    G.orc (d + 8) 24 [.d (rg r), .d (fr h), .d (gsp g)] [] = some (sp (reachR r h g), false, []) := run_reach d hg.a hg.b zr hg.sz zh hr h1
theorem comp_reach (d : Nat) {n k q : Nat} {r : List Pt} {gs : List (Nat × Rat)} {h : Rat} {D : PyData} (hD : items D = some (gs.map gsp)) (hg : ∀ g ∈ gs, GOk r k g) (zr : ∀ c ∈ r, szp n c) (zh : sz q h) (hr : r.length ≤ 1000) (hgs : gs.length ≤ 1000) (h1 : 20 * n + 4 * k + 4 * q + 50 ≤ 8192)
    {ρ : Ev} {S : Store} (r0 : ρ[0]? = some (some (.d (rg r)))) (r1 : ρ[1]? = some (some (.d (fr h)))) (r2 : ρ[2]? = some (some (.d D))) (r4 : 4 < ρ.length) :
    ev ⟨G.refs, G.orc (d + 8)⟩ (.comp [4] (.nm 4) (.var 2) [] (.call 24 [(.var 0), (.var 1), (.var 4)])) ρ S = some (.d (.list ((gs.map (reachR r h)).map sp)), S) := by
  have he : evi ⟨G.refs, G.orc (d + 8)⟩ (.var 2) ρ S = some ((gs.map gsp, still (.d D) (gs.map gsp)), S) := by
    simp [evi, itV, ev_var, deref, r2, hD]
  have hm : (gs.flatMap fun g => [sp (reachR r h g)]) = (gs.map (reachR r h)).map sp := by rw [flatMap_one, List.map_map]; rfl
  rw [← hm]
  refine comp_map he trivial ?_ fun g hgm => ?_
  · rw [flatMap_one, List.length_map]
    show gs.length ≤ 16777216
    omega
  · have f := run_reachR d (hg g hgm) zr zh hr h1
    have e4 : (ρ.set 4 (some (PV.d (gsp g))))[4]? = some (some (.d (gsp g))) := List.getElem?_set_self r4
    simp [turnC, eltC, wipeE, bd_nm, evt, ev_call, evp, ev_var, callC, derefs, deref, rf0, rf1, rf2, rf3, rf4, rf5, rf6, rf7, rf8, rf9, rf10, rf11, rf12, rf13, rf14, rf15, rf16, rf17, rf18, rf19, rf20, rf21, rf22, rf23, rf24, rf25, rf26, rf27, rf28, rf29, rf30, rf31, rf32, rf33, rf34, rf35, rf36, rf37, rf38, rf39, rf40, rf41, rf42, rf43, rf44, rf45, r0, r1, e4, f, dt, isRef]
theorem run_common_reach (d : Nat) {n k q : Nat} {r : List Pt} {g0 : Nat × Rat} {gs : List (Nat × Rat)} {h : Rat} {D : PyData} (hD : items D = some ((g0 :: gs).map gsp)) (hg : ∀ g ∈ g0 :: gs, GOk r k g) (zr : ∀ c ∈ r, szp n c) (zh : sz q h) (hr : r.length ≤ 1000) (hgs : (g0 :: gs).length ≤ 1000) (h1 : 20 * n + 4 * k + 4 * q + 50 ≤ 8192) (zR : ∀ g ∈ g0 :: gs, szp 8192 (reachR r h g)) :
    G.orc (d + 9) 25 [.d (rg r), .d (fr h), .d D] [] = some (sp (maxL (((g0 :: gs).map (reachR r h)).map (·.1)), minL (((g0 :: gs).map (reachR r h)).map (·.2))), false, []) := by
  rw [orc_fn (d + 8) pg25]
  have c0 : ∀ (ρ : Ev) (S : Store), ρ[0]? = some (some (.d (rg r))) → ρ[1]? = some (some (.d (fr h))) → ρ[2]? = some (some (.d D)) → 4 < ρ.length → _ := fun ρ S r0 r1 r2 r4 => comp_reach d hD hg zr zh hr hgs h1 (ρ := ρ) (S := S) r0 r1 r2 r4
  have zR' : ∀ p ∈ (g0 :: gs).map (reachR r h), szp 8192 p := fun p hp => by
    obtain ⟨g, hg, rfl⟩ := List.mem_map.mp hp
    exact zR g hg
  have hl : ((g0 :: gs).map (reachR r h)).length ≤ 1000 := by simpa using hgs
  generalize hrs : (g0 :: gs).map (reachR r h) = rs at *
  obtain ⟨p, ps, rfl⟩ : ∃ p ps, rs = p :: ps := by
    rw [List.map_cons] at hrs
    exact ⟨_, _, hrs.symm⟩
  have c1 : ∀ (ρ : Ev) (S : Store), ρ.length = 7 → ρ[3]? = some (some (.d (.list ((p :: ps).map sp)))) → ev ⟨G.refs, G.orc (d + 8)⟩ (.comp [5, 6] (.tup [(.nm 5), (.nm 6)]) (.var 3) [] (.var 5)) ρ S = _ := fun ρ S h1 h2 => comp_sp1 (by omega) (by decide) h2 hl
  have c2 : ∀ (ρ : Ev) (S : Store), ρ.length = 7 → ρ[3]? = some (some (.d (.list ((p :: ps).map sp)))) → ev ⟨G.refs, G.orc (d + 8)⟩ (.comp [5, 6] (.tup [(.nm 5), (.nm 6)]) (.var 3) [] (.var 6)) ρ S = _ := fun ρ S h1 h2 => comp_sp2 (by omega) h2 hl
  have f2 := run_greatest (d + 6) (n := 8192) (D := .tuple (((p :: ps).map (·.1)).map fr)) (x := p.1) (xs := ps.map (·.1)) rfl (fun y hy => by
    rw [← List.map_cons (f := fun x : Pt => x.1)] at hy
    obtain ⟨z, hz, rfl⟩ := List.mem_map.mp hy
    exact (zR' z hz).1) (by omega)
  have f3 := run_least (d + 6) (n := 8192) (D := .tuple (((p :: ps).map (·.2)).map fr)) (x := p.2) (xs := ps.map (·.2)) rfl (fun y hy => by
    rw [← List.map_cons (f := fun x : Pt => x.2)] at hy
    obtain ⟨z, hz, rfl⟩ := List.mem_map.mp hy
    exact (zR' z hz).2) (by omega)
  simp only [List.map_cons, List.map_map] at c0 c1 c2 f2 f3
  simp [b25, runFn, sxs_cons, sxs_nil, sx_asg, sx_asgT, sx_alloc, sx_par, sx_if, sx_retV, ret_tup, evn_tup, ret_lst, evn_lst, ret_bin, evn_bin, ret_neg, evn_neg, ret_not, evn_not, ret_cmp, evn_cmp, ret_chain, evn_chain, ret_and, evn_and, ret_or, evn_or, ret_ite, evn_ite, ret_ix, evn_ix, ret_sl, evn_sl, ret_bf, evn_bf, ret_met, evn_met, ret_comp, evn_comp, ret_cst, evn_cst, ret_call, sx_expr, sx_aug, sx_brk, sx_cnt, ev_var, ev_cst, ev_tup, ev_lst, ev_bin, ev_neg, ev_not, ev_cmp, ev_chain, ev_and, ev_or, ev_ite, ev_ix, ev_sl, ev_back, ev_call, ev_bf, ev_met, evn_call, evns, evs, evp, evt, own, setAll, callC, derefs, isRef, op1, op2, dt, vd, vb, Cr.part, intD, deref, items_list, items_tuple, Cr.ixN, ix_tup, ix_list, ix_fr0, ix_fr1, ix_sp0, ix_sp1, ix_gsp0, ix_gsp1, items_fr, items_sp, items_rg, cmp_eqF, cmp_neF, binD, tru_int, tru_bool, bd_nm, bd_tup, bds_nil, bds_cons, frz, frzV, isNew, bfD, metS, metD, isLst, cmp_eqI, cmp_neI, cmp_ltI, cmp_leI, cmp_gtI, cmp_geI, cmp_isNone, cmp_isNoneT, cmp_notNone, cmp_notNoneT, cmp_notB, cmp_isB, cmp_neB, cmp_eqB, bd_sp, bd_gsp, bd_pkd, items_gsp, rf0, rf1, rf2, rf3, rf4, rf5, rf6, rf7, rf8, rf9, rf10, rf11, rf12, rf13, rf14, rf15, rf16, rf17, rf18, rf19, rf20, rf21, rf22, rf23, rf24, rf25, rf26, rf27, rf28, rf29, rf30, rf31, rf32, rf33, rf34, rf35, rf36, rf37, rf38, rf39, rf40, rf41, rf42, rf43, rf44, rf45, c0, c1, c2, f2, f3, line, sp_fold]
theorem run_seen_by (d : Nat) {n k q m : Nat} {r : List Pt} {g : Nat × Rat} {h : Rat} {xs : List Rat} {D : PyData} (hD : items D = some (xs.map fr)) (hg : GOk r k g) (zr : ∀ c ∈ r, szp n c) (zh : sz q h) (zx : ∀ x ∈ xs, sz m x) (hr : r.length ≤ 1000) (hx : xs.length ≤ 1000) (h1 : 20 * n + 2 * k + 4 * q + 4 * m + 50 ≤ 8192) :
    G.orc (d + 9) 22 [.d (rg r), .d (fr h), .d D, .d (gsp g)] [] = some (.tuple ((xs.filter fun x => seesB r h x (spotR r g)).map fr), false, []) := by
  rw [orc_fn (d + 8) pg22]
  have c0 : ∀ (o : Option PV) (S : Store), ev ⟨G.refs, G.orc (d + 8)⟩ (.comp [4] (.nm 4) (.var 2) [(.call 21 [(.var 0), (.var 1), (.var 4), (.var 3)])] (.var 4)) [some (.d (rg r)), some (.d (fr h)), some (.d D), some (.d (gsp g)), o] S = some (.d (.list ((xs.filter fun x => seesB r h x (spotR r g)).map fr)), S) := by
    intro o S
    have he : evi ⟨G.refs, G.orc (d + 8)⟩ (.var 2) [some (.d (rg r)), some (.d (fr h)), some (.d D), some (.d (gsp g)), o] S = some ((xs.map fr, still (.d D) (xs.map fr)), S) := by
      simp [evi, itV, ev_var, deref, hD]
    rw [← flatMap_if (fun x => seesB r h x (spotR r g)) fr xs]
    refine comp_map he trivial ?_ fun x hxm => ?_
    · rw [flatMap_if, List.length_map]
      have := List.length_filter_le (fun x => seesB r h x (spotR r g)) xs
      show _ ≤ 16777216
      omega
    · have f := run_sees d hg.a hg.b zr hg.sz zh (zx x hxm) hr h1
      have f : G.orc (d + 8) 21 [.d (rg r), .d (fr h), .d (fr x), .d (gsp g)] [] = some (.bool (seesB r h x (spotR r g)), false, []) := f
      by_cases c : seesB r h x (spotR r g) = true
      · simp [turnC, eltC, wipeE, bd_nm, evt, ev_call, evp, ev_var, callC, derefs, deref, rf0, rf1, rf2, rf3, rf4, rf5, rf6, rf7, rf8, rf9, rf10, rf11, rf12, rf13, rf14, rf15, rf16, rf17, rf18, rf19, rf20, rf21, rf22, rf23, rf24, rf25, rf26, rf27, rf28, rf29, rf30, rf31, rf32, rf33, rf34, rf35, rf36, rf37, rf38, rf39, rf40, rf41, rf42, rf43, rf44, rf45, f, dt, op1, tru_bool, c, isRef]
      · simp at c
        simp [turnC, eltC, wipeE, bd_nm, evt, ev_call, evp, ev_var, callC, derefs, deref, rf0, rf1, rf2, rf3, rf4, rf5, rf6, rf7, rf8, rf9, rf10, rf11, rf12, rf13, rf14, rf15, rf16, rf17, rf18, rf19, rf20, rf21, rf22, rf23, rf24, rf25, rf26, rf27, rf28, rf29, rf30, rf31, rf32, rf33, rf34, rf35, rf36, rf37, rf38, rf39, rf40, rf41, rf42, rf43, rf44, rf45, f, dt, op1, tru_bool, c, isRef]
  simp [b22, runFn, sxs_cons, sxs_nil, sx_asg, sx_asgT, sx_alloc, sx_par, sx_if, sx_retV, ret_tup, evn_tup, ret_lst, evn_lst, ret_bin, evn_bin, ret_neg, evn_neg, ret_not, evn_not, ret_cmp, evn_cmp, ret_chain, evn_chain, ret_and, evn_and, ret_or, evn_or, ret_ite, evn_ite, ret_ix, evn_ix, ret_sl, evn_sl, ret_bf, evn_bf, ret_met, evn_met, ret_comp, evn_comp, ret_cst, evn_cst, ret_call, sx_expr, sx_aug, sx_brk, sx_cnt, ev_var, ev_cst, ev_tup, ev_lst, ev_bin, ev_neg, ev_not, ev_cmp, ev_chain, ev_and, ev_or, ev_ite, ev_ix, ev_sl, ev_back, ev_call, ev_bf, ev_met, evn_call, evns, evs, evp, evt, own, setAll, callC, derefs, isRef, op1, op2, dt, vd, vb, Cr.part, intD, deref, items_list, items_tuple, Cr.ixN, ix_tup, ix_list, ix_fr0, ix_fr1, ix_sp0, ix_sp1, ix_gsp0, ix_gsp1, items_fr, items_sp, items_rg, cmp_eqF, cmp_neF, binD, tru_int, tru_bool, bd_nm, bd_tup, bds_nil, bds_cons, frz, frzV, isNew, bfD, metS, metD, isLst, cmp_eqI, cmp_neI, cmp_ltI, cmp_leI, cmp_gtI, cmp_geI, cmp_isNone, cmp_isNoneT, cmp_notNone, cmp_notNoneT, cmp_notB, cmp_isB, cmp_neB, cmp_eqB, bd_sp, bd_gsp, bd_pkd, items_gsp, rf0, rf1, rf2, rf3, rf4, rf5, rf6, rf7, rf8, rf9, rf10, rf11, rf12, rf13, rf14, rf15, rf16, rf17, rf18, rf19, rf20, rf21, rf22, rf23, rf24, rf25, rf26, rf27, rf28, rf29, rf30, rf31, rf32, rf33, rf34, rf35, rf36, rf37, rf38, rf39, rf40, rf41, rf42, rf43, rf44, rf45, c0]
/-! ### drawing -/
def IsSrc (o : Cr.PO) : Prop := ∃ cells l m t, o = .src cells l m t
theorem run_pick (d : Nat) {o : Cr.PO} (ho : IsSrc o) {most : Int} (h1 : 1 ≤ most) (h2 : most < 1048576) : ∃ (z : Int) (o' : Cr.PO), 0 ≤ z ∧ z < most ∧ IsSrc o' ∧ G.orc (d + 1) 45 [.r 0, .d (.int most)] [o] = some (.int z, false, [o']) := by
  obtain ⟨cells, l, m, t, rfl⟩ := ho
  have e : G.orc (d + 1) 45 [.r 0, .d (.int most)] [.src cells l m t] = (pickF most (.src cells l m t)).map fun r => (.int r.1, false, [r.2]) := rfl
  rw [e]
  have b1 : ∀ x : Int, 0 ≤ x.fmod most ∧ x.fmod most < most := fun x => ⟨Int.fmod_nonneg_of_pos x (by omega), Int.fmod_lt_of_pos x (by omega)⟩
  simp only [pickF]
  by_cases c1 : most < 2
  · rw [if_pos c1]
    exact ⟨0, _, by omega, by omega, ⟨_, _, _, _, rfl⟩, rfl⟩
  · rw [if_neg c1]
    by_cases c2 : (drain cells l).2 > 1
    · rw [if_pos c2, if_pos h2]
      exact ⟨_, _, (b1 _).1, (b1 _).2, ⟨_, _, _, _, rfl⟩, rfl⟩
    · rw [if_neg c2, if_pos h2]
      exact ⟨_, _, (b1 _).1, (b1 _).2, ⟨_, _, _, _, rfl⟩, rfl⟩
theorem small_fr (z : Int) (k : Int) (hk : 0 < k) (hz : 0 ≤ z) (h1 : z < 32) (h2 : k < 32) : sz 5 (Rat.divInt z k) := sz_div (by omega) (by omega) (by omega)
theorem int_fr (z : Int) : PyData.tuple [.int z, .int 1] = fr (z : Rat) := rfl
theorem sz_int {n : Nat} {z : Int} (h : z.natAbs < 2 ^ n) (hn : 0 < n) : sz n (z : Rat) := ⟨h, Nat.one_lt_two_pow (by omega)⟩
theorem sm_small {k : Int} (h : k.natAbs < 1024) : sm k := sm_of (n := 10) h (by omega)
/-! ### drawn heights and places -/
theorem add1_lt {z : Int} (h1 : 0 ≤ z) (h2 : z < 9) : 0 < 1 + z ∧ 1 + z < 32 := ⟨by omega, by omega⟩
theorem pos_div {a b : Int} (ha : 0 < a) (hb : 0 < b) : 0 < Rat.divInt a b := by
  rw [Rat.divInt_eq_div]
  have h1 : (0 : Rat) < (a : Rat) := Rat.intCast_pos.mpr ha
  have h2 : (0 : Rat) < (b : Rat) := Rat.intCast_pos.mpr hb
  exact (Rat.lt_div_iff h2).mpr (by rw [Rat.zero_mul]; exact h1)
theorem run_height (d : Nat) {n : Nat} {o : Cr.PO} (ho : IsSrc o) {r : List Pt} (h0 : r ≠ []) (zr : ∀ c ∈ r, szp n c) (hr : r.length ≤ 1000) (hn : n ≤ 1000) : ∃ (h : Rat) (o' : Cr.PO), sz (n + 6) h ∧ (∀ c ∈ r, c.2 < h) ∧ IsSrc o' ∧ G.orc (d + 4) 41 [.r 0, .d (rg r)] [o] = some (fr h, false, [o']) := by
  rw [orc_fn (d + 3) pg41]
  have c0 : ∀ (S : Store), ev ⟨G.refs, G.orc (d + 3)⟩ (.comp [3, 4] (.tup [(.nm 3), (.nm 4)]) (.var 1) [] (.var 4)) [some (.r 0), some (.d (rg r)), none, none, none] S = some (.d (.list ((r.map (·.2)).map fr)), S) := by
    intro S
    have he : evi ⟨G.refs, G.orc (d + 3)⟩ (.var 1) [some (.r 0), some (.d (rg r)), none, none, none] S = some ((r.map sp, still (.d (rg r)) (r.map sp)), S) := by
      simp [evi, itV, ev_var, deref, items_rg]
    have hm : (r.flatMap fun q => [fr q.2]) = (r.map (·.2)).map fr := by rw [flatMap_one, List.map_map]; rfl
    rw [← hm]
    refine comp_map he trivial ?_ fun q _ => ?_
    · rw [flatMap_one, List.length_map]
      show r.length ≤ 16777216
      omega
    · simp [turnC, eltC, wipeE, bd_sp, bds_cons, bds_nil, bd_nm, evt, ev_var, dt]
  obtain ⟨p, ps, hp⟩ : ∃ p ps, r.map (·.2) = p :: ps := by
    cases r with
    | nil => exact absurd rfl h0
    | cons a r => exact ⟨_, _, rfl⟩
  have zp : ∀ y ∈ p :: ps, sz n y := fun y hy => by
    rw [← hp] at hy
    obtain ⟨c, hc, rfl⟩ := List.mem_map.mp hy
    exact (zr c hc).2
  have ht : ∀ c ∈ r, c.2 ≤ maxL (p :: ps) := fun c hc => le_maxL (by rw [← hp]; exact List.mem_map_of_mem hc)
  have zt : sz n (maxL (p :: ps)) := zp _ (maxL_mem (List.cons_ne_nil _ _))
  have f0 := run_law_most (d + 1) (n := n) (D := .list ((p :: ps).map fr)) (x := p) (xs := ps) rfl zp (by omega)
  rw [hp] at c0
  simp only [List.map_cons] at c0 f0
  generalize maxL (p :: ps) = top at *
  obtain ⟨z1, o1, a1, a2, s1, p1⟩ := run_pick (d + 2) ho (most := 4) (by omega) (by omega)
  have fin : ∀ (u e : Int), 0 < u → u < 32 → 0 < e → e < 32 → sz (n + 6) (top + Rat.divInt u e) ∧ (∀ c ∈ r, c.2 < top + Rat.divInt u e) ∧ G.orc (d + 3) 27 [.d (.int u), .d (.int e)] [] = some (fr (Rat.divInt u e), false, []) ∧ G.orc (d + 3) 28 [.d (fr top), .d (fr (Rat.divInt u e))] [] = some (fr (top + Rat.divInt u e), false, []) := by
    intro u e h1 h2 h3 h4
    have zq := small_fr u e h3 (by omega) h2 h4
    have hq := pos_div h1 h3
    refine ⟨(sz_add zt zq).mono (by omega), fun c hc => ?_, run_law_fraction (d + 1) u e (by omega) (sm_gcd (by omega) (sm_small (by omega))), run_law_sum d zt zq (by omega)⟩
    have := ht c hc
    grind
  by_cases c : 0 < z1
  · obtain ⟨z2, o2, b1, b2, s2, p2⟩ := run_pick (d + 2) s1 (most := 3) (by omega) (by omega)
    obtain ⟨z3, o3, c1, c2, s3, p3⟩ := run_pick (d + 2) s2 (most := 4) (by omega) (by omega)
    have hz : z3 = 0 ∨ z3 = 1 ∨ z3 = 2 ∨ z3 = 3 := by omega
    rcases hz with rfl | rfl | rfl | rfl
    · obtain ⟨q1, q2, q3, q4⟩ := fin (1 + z2) 2 (by omega) (by omega) (by omega) (by omega)
      exact ⟨_, o3, q1, q2, s3, by simp [b41, runFn, sxs_cons, sxs_nil, sx_asg, sx_asgT, sx_alloc, sx_par, sx_if, sx_retV, ret_tup, evn_tup, ret_lst, evn_lst, ret_bin, evn_bin, ret_neg, evn_neg, ret_not, evn_not, ret_cmp, evn_cmp, ret_chain, evn_chain, ret_and, evn_and, ret_or, evn_or, ret_ite, evn_ite, ret_ix, evn_ix, ret_sl, evn_sl, ret_bf, evn_bf, ret_met, evn_met, ret_comp, evn_comp, ret_cst, evn_cst, ret_call, sx_expr, sx_aug, sx_brk, sx_cnt, ev_var, ev_cst, ev_tup, ev_lst, ev_bin, ev_neg, ev_not, ev_cmp, ev_chain, ev_and, ev_or, ev_ite, ev_ix, ev_sl, ev_back, ev_call, ev_bf, ev_met, evn_call, evns, evs, evp, evt, own, setAll, callC, derefs, isRef, op1, op2, dt, vd, vb, Cr.part, intD, deref, items_list, items_tuple, Cr.ixN, ix_tup, ix_list, ix_fr0, ix_fr1, ix_sp0, ix_sp1, ix_gsp0, ix_gsp1, items_fr, items_sp, items_rg, cmp_eqF, cmp_neF, binD, tru_int, tru_bool, bd_nm, bd_tup, bds_nil, bds_cons, frz, frzV, isNew, bfD, metS, metD, isLst, cmp_eqI, cmp_neI, cmp_ltI, cmp_leI, cmp_gtI, cmp_geI, cmp_isNone, cmp_isNoneT, cmp_notNone, cmp_notNoneT, cmp_notB, cmp_isB, cmp_neB, cmp_eqB, bd_sp, bd_gsp, bd_pkd, items_gsp, rf0, rf1, rf2, rf3, rf4, rf5, rf6, rf7, rf8, rf9, rf10, rf11, rf12, rf13, rf14, rf15, rf16, rf17, rf18, rf19, rf20, rf21, rf22, rf23, rf24, rf25, rf26, rf27, rf28, rf29, rf30, rf31, rf32, rf33, rf34, rf35, rf36, rf37, rf38, rf39, rf40, rf41, rf42, rf43, rf44, rf45, hands, c0, f0, p1, c, p2, p3, q3, q4, line]⟩
    · obtain ⟨q1, q2, q3, q4⟩ := fin (1 + z2) 4 (by omega) (by omega) (by omega) (by omega)
      exact ⟨_, o3, q1, q2, s3, by simp [b41, runFn, sxs_cons, sxs_nil, sx_asg, sx_asgT, sx_alloc, sx_par, sx_if, sx_retV, ret_tup, evn_tup, ret_lst, evn_lst, ret_bin, evn_bin, ret_neg, evn_neg, ret_not, evn_not, ret_cmp, evn_cmp, ret_chain, evn_chain, ret_and, evn_and, ret_or, evn_or, ret_ite, evn_ite, ret_ix, evn_ix, ret_sl, evn_sl, ret_bf, evn_bf, ret_met, evn_met, ret_comp, evn_comp, ret_cst, evn_cst, ret_call, sx_expr, sx_aug, sx_brk, sx_cnt, ev_var, ev_cst, ev_tup, ev_lst, ev_bin, ev_neg, ev_not, ev_cmp, ev_chain, ev_and, ev_or, ev_ite, ev_ix, ev_sl, ev_back, ev_call, ev_bf, ev_met, evn_call, evns, evs, evp, evt, own, setAll, callC, derefs, isRef, op1, op2, dt, vd, vb, Cr.part, intD, deref, items_list, items_tuple, Cr.ixN, ix_tup, ix_list, ix_fr0, ix_fr1, ix_sp0, ix_sp1, ix_gsp0, ix_gsp1, items_fr, items_sp, items_rg, cmp_eqF, cmp_neF, binD, tru_int, tru_bool, bd_nm, bd_tup, bds_nil, bds_cons, frz, frzV, isNew, bfD, metS, metD, isLst, cmp_eqI, cmp_neI, cmp_ltI, cmp_leI, cmp_gtI, cmp_geI, cmp_isNone, cmp_isNoneT, cmp_notNone, cmp_notNoneT, cmp_notB, cmp_isB, cmp_neB, cmp_eqB, bd_sp, bd_gsp, bd_pkd, items_gsp, rf0, rf1, rf2, rf3, rf4, rf5, rf6, rf7, rf8, rf9, rf10, rf11, rf12, rf13, rf14, rf15, rf16, rf17, rf18, rf19, rf20, rf21, rf22, rf23, rf24, rf25, rf26, rf27, rf28, rf29, rf30, rf31, rf32, rf33, rf34, rf35, rf36, rf37, rf38, rf39, rf40, rf41, rf42, rf43, rf44, rf45, hands, c0, f0, p1, c, p2, p3, q3, q4, line]⟩
    · obtain ⟨q1, q2, q3, q4⟩ := fin (1 + z2) 8 (by omega) (by omega) (by omega) (by omega)
      exact ⟨_, o3, q1, q2, s3, by simp [b41, runFn, sxs_cons, sxs_nil, sx_asg, sx_asgT, sx_alloc, sx_par, sx_if, sx_retV, ret_tup, evn_tup, ret_lst, evn_lst, ret_bin, evn_bin, ret_neg, evn_neg, ret_not, evn_not, ret_cmp, evn_cmp, ret_chain, evn_chain, ret_and, evn_and, ret_or, evn_or, ret_ite, evn_ite, ret_ix, evn_ix, ret_sl, evn_sl, ret_bf, evn_bf, ret_met, evn_met, ret_comp, evn_comp, ret_cst, evn_cst, ret_call, sx_expr, sx_aug, sx_brk, sx_cnt, ev_var, ev_cst, ev_tup, ev_lst, ev_bin, ev_neg, ev_not, ev_cmp, ev_chain, ev_and, ev_or, ev_ite, ev_ix, ev_sl, ev_back, ev_call, ev_bf, ev_met, evn_call, evns, evs, evp, evt, own, setAll, callC, derefs, isRef, op1, op2, dt, vd, vb, Cr.part, intD, deref, items_list, items_tuple, Cr.ixN, ix_tup, ix_list, ix_fr0, ix_fr1, ix_sp0, ix_sp1, ix_gsp0, ix_gsp1, items_fr, items_sp, items_rg, cmp_eqF, cmp_neF, binD, tru_int, tru_bool, bd_nm, bd_tup, bds_nil, bds_cons, frz, frzV, isNew, bfD, metS, metD, isLst, cmp_eqI, cmp_neI, cmp_ltI, cmp_leI, cmp_gtI, cmp_geI, cmp_isNone, cmp_isNoneT, cmp_notNone, cmp_notNoneT, cmp_notB, cmp_isB, cmp_neB, cmp_eqB, bd_sp, bd_gsp, bd_pkd, items_gsp, rf0, rf1, rf2, rf3, rf4, rf5, rf6, rf7, rf8, rf9, rf10, rf11, rf12, rf13, rf14, rf15, rf16, rf17, rf18, rf19, rf20, rf21, rf22, rf23, rf24, rf25, rf26, rf27, rf28, rf29, rf30, rf31, rf32, rf33, rf34, rf35, rf36, rf37, rf38, rf39, rf40, rf41, rf42, rf43, rf44, rf45, hands, c0, f0, p1, c, p2, p3, q3, q4, line]⟩
    · obtain ⟨q1, q2, q3, q4⟩ := fin (1 + z2) 16 (by omega) (by omega) (by omega) (by omega)
      exact ⟨_, o3, q1, q2, s3, by simp [b41, runFn, sxs_cons, sxs_nil, sx_asg, sx_asgT, sx_alloc, sx_par, sx_if, sx_retV, ret_tup, evn_tup, ret_lst, evn_lst, ret_bin, evn_bin, ret_neg, evn_neg, ret_not, evn_not, ret_cmp, evn_cmp, ret_chain, evn_chain, ret_and, evn_and, ret_or, evn_or, ret_ite, evn_ite, ret_ix, evn_ix, ret_sl, evn_sl, ret_bf, evn_bf, ret_met, evn_met, ret_comp, evn_comp, ret_cst, evn_cst, ret_call, sx_expr, sx_aug, sx_brk, sx_cnt, ev_var, ev_cst, ev_tup, ev_lst, ev_bin, ev_neg, ev_not, ev_cmp, ev_chain, ev_and, ev_or, ev_ite, ev_ix, ev_sl, ev_back, ev_call, ev_bf, ev_met, evn_call, evns, evs, evp, evt, own, setAll, callC, derefs, isRef, op1, op2, dt, vd, vb, Cr.part, intD, deref, items_list, items_tuple, Cr.ixN, ix_tup, ix_list, ix_fr0, ix_fr1, ix_sp0, ix_sp1, ix_gsp0, ix_gsp1, items_fr, items_sp, items_rg, cmp_eqF, cmp_neF, binD, tru_int, tru_bool, bd_nm, bd_tup, bds_nil, bds_cons, frz, frzV, isNew, bfD, metS, metD, isLst, cmp_eqI, cmp_neI, cmp_ltI, cmp_leI, cmp_gtI, cmp_geI, cmp_isNone, cmp_isNoneT, cmp_notNone, cmp_notNoneT, cmp_notB, cmp_isB, cmp_neB, cmp_eqB, bd_sp, bd_gsp, bd_pkd, items_gsp, rf0, rf1, rf2, rf3, rf4, rf5, rf6, rf7, rf8, rf9, rf10, rf11, rf12, rf13, rf14, rf15, rf16, rf17, rf18, rf19, rf20, rf21, rf22, rf23, rf24, rf25, rf26, rf27, rf28, rf29, rf30, rf31, rf32, rf33, rf34, rf35, rf36, rf37, rf38, rf39, rf40, rf41, rf42, rf43, rf44, rf45, hands, c0, f0, p1, c, p2, p3, q3, q4, line]⟩
  · obtain ⟨z2, o2, b1, b2, s2, p2⟩ := run_pick (d + 2) s1 (most := 9) (by omega) (by omega)
    obtain ⟨z3, o3, c1, c2, s3, p3⟩ := run_pick (d + 2) s2 (most := 3) (by omega) (by omega)
    have hz : z3 = 0 ∨ z3 = 1 ∨ z3 = 2 := by omega
    rcases hz with rfl | rfl | rfl
    · obtain ⟨q1, q2, q3, q4⟩ := fin (1 + z2) 1 (by omega) (by omega) (by omega) (by omega)
      exact ⟨_, o3, q1, q2, s3, by simp [b41, runFn, sxs_cons, sxs_nil, sx_asg, sx_asgT, sx_alloc, sx_par, sx_if, sx_retV, ret_tup, evn_tup, ret_lst, evn_lst, ret_bin, evn_bin, ret_neg, evn_neg, ret_not, evn_not, ret_cmp, evn_cmp, ret_chain, evn_chain, ret_and, evn_and, ret_or, evn_or, ret_ite, evn_ite, ret_ix, evn_ix, ret_sl, evn_sl, ret_bf, evn_bf, ret_met, evn_met, ret_comp, evn_comp, ret_cst, evn_cst, ret_call, sx_expr, sx_aug, sx_brk, sx_cnt, ev_var, ev_cst, ev_tup, ev_lst, ev_bin, ev_neg, ev_not, ev_cmp, ev_chain, ev_and, ev_or, ev_ite, ev_ix, ev_sl, ev_back, ev_call, ev_bf, ev_met, evn_call, evns, evs, evp, evt, own, setAll, callC, derefs, isRef, op1, op2, dt, vd, vb, Cr.part, intD, deref, items_list, items_tuple, Cr.ixN, ix_tup, ix_list, ix_fr0, ix_fr1, ix_sp0, ix_sp1, ix_gsp0, ix_gsp1, items_fr, items_sp, items_rg, cmp_eqF, cmp_neF, binD, tru_int, tru_bool, bd_nm, bd_tup, bds_nil, bds_cons, frz, frzV, isNew, bfD, metS, metD, isLst, cmp_eqI, cmp_neI, cmp_ltI, cmp_leI, cmp_gtI, cmp_geI, cmp_isNone, cmp_isNoneT, cmp_notNone, cmp_notNoneT, cmp_notB, cmp_isB, cmp_neB, cmp_eqB, bd_sp, bd_gsp, bd_pkd, items_gsp, rf0, rf1, rf2, rf3, rf4, rf5, rf6, rf7, rf8, rf9, rf10, rf11, rf12, rf13, rf14, rf15, rf16, rf17, rf18, rf19, rf20, rf21, rf22, rf23, rf24, rf25, rf26, rf27, rf28, rf29, rf30, rf31, rf32, rf33, rf34, rf35, rf36, rf37, rf38, rf39, rf40, rf41, rf42, rf43, rf44, rf45, hands, c0, f0, p1, c, p2, p3, q3, q4, line]⟩
    · obtain ⟨q1, q2, q3, q4⟩ := fin (1 + z2) 2 (by omega) (by omega) (by omega) (by omega)
      exact ⟨_, o3, q1, q2, s3, by simp [b41, runFn, sxs_cons, sxs_nil, sx_asg, sx_asgT, sx_alloc, sx_par, sx_if, sx_retV, ret_tup, evn_tup, ret_lst, evn_lst, ret_bin, evn_bin, ret_neg, evn_neg, ret_not, evn_not, ret_cmp, evn_cmp, ret_chain, evn_chain, ret_and, evn_and, ret_or, evn_or, ret_ite, evn_ite, ret_ix, evn_ix, ret_sl, evn_sl, ret_bf, evn_bf, ret_met, evn_met, ret_comp, evn_comp, ret_cst, evn_cst, ret_call, sx_expr, sx_aug, sx_brk, sx_cnt, ev_var, ev_cst, ev_tup, ev_lst, ev_bin, ev_neg, ev_not, ev_cmp, ev_chain, ev_and, ev_or, ev_ite, ev_ix, ev_sl, ev_back, ev_call, ev_bf, ev_met, evn_call, evns, evs, evp, evt, own, setAll, callC, derefs, isRef, op1, op2, dt, vd, vb, Cr.part, intD, deref, items_list, items_tuple, Cr.ixN, ix_tup, ix_list, ix_fr0, ix_fr1, ix_sp0, ix_sp1, ix_gsp0, ix_gsp1, items_fr, items_sp, items_rg, cmp_eqF, cmp_neF, binD, tru_int, tru_bool, bd_nm, bd_tup, bds_nil, bds_cons, frz, frzV, isNew, bfD, metS, metD, isLst, cmp_eqI, cmp_neI, cmp_ltI, cmp_leI, cmp_gtI, cmp_geI, cmp_isNone, cmp_isNoneT, cmp_notNone, cmp_notNoneT, cmp_notB, cmp_isB, cmp_neB, cmp_eqB, bd_sp, bd_gsp, bd_pkd, items_gsp, rf0, rf1, rf2, rf3, rf4, rf5, rf6, rf7, rf8, rf9, rf10, rf11, rf12, rf13, rf14, rf15, rf16, rf17, rf18, rf19, rf20, rf21, rf22, rf23, rf24, rf25, rf26, rf27, rf28, rf29, rf30, rf31, rf32, rf33, rf34, rf35, rf36, rf37, rf38, rf39, rf40, rf41, rf42, rf43, rf44, rf45, hands, c0, f0, p1, c, p2, p3, q3, q4, line]⟩
    · obtain ⟨q1, q2, q3, q4⟩ := fin (1 + z2) 4 (by omega) (by omega) (by omega) (by omega)
      exact ⟨_, o3, q1, q2, s3, by simp [b41, runFn, sxs_cons, sxs_nil, sx_asg, sx_asgT, sx_alloc, sx_par, sx_if, sx_retV, ret_tup, evn_tup, ret_lst, evn_lst, ret_bin, evn_bin, ret_neg, evn_neg, ret_not, evn_not, ret_cmp, evn_cmp, ret_chain, evn_chain, ret_and, evn_and, ret_or, evn_or, ret_ite, evn_ite, ret_ix, evn_ix, ret_sl, evn_sl, ret_bf, evn_bf, ret_met, evn_met, ret_comp, evn_comp, ret_cst, evn_cst, ret_call, sx_expr, sx_aug, sx_brk, sx_cnt, ev_var, ev_cst, ev_tup, ev_lst, ev_bin, ev_neg, ev_not, ev_cmp, ev_chain, ev_and, ev_or, ev_ite, ev_ix, ev_sl, ev_back, ev_call, ev_bf, ev_met, evn_call, evns, evs, evp, evt, own, setAll, callC, derefs, isRef, op1, op2, dt, vd, vb, Cr.part, intD, deref, items_list, items_tuple, Cr.ixN, ix_tup, ix_list, ix_fr0, ix_fr1, ix_sp0, ix_sp1, ix_gsp0, ix_gsp1, items_fr, items_sp, items_rg, cmp_eqF, cmp_neF, binD, tru_int, tru_bool, bd_nm, bd_tup, bds_nil, bds_cons, frz, frzV, isNew, bfD, metS, metD, isLst, cmp_eqI, cmp_neI, cmp_ltI, cmp_leI, cmp_gtI, cmp_geI, cmp_isNone, cmp_isNoneT, cmp_notNone, cmp_notNoneT, cmp_notB, cmp_isB, cmp_neB, cmp_eqB, bd_sp, bd_gsp, bd_pkd, items_gsp, rf0, rf1, rf2, rf3, rf4, rf5, rf6, rf7, rf8, rf9, rf10, rf11, rf12, rf13, rf14, rf15, rf16, rf17, rf18, rf19, rf20, rf21, rf22, rf23, rf24, rf25, rf26, rf27, rf28, rf29, rf30, rf31, rf32, rf33, rf34, rf35, rf36, rf37, rf38, rf39, rf40, rf41, rf42, rf43, rf44, rf45, hands, c0, f0, p1, c, p2, p3, q3, q4, line]⟩
theorem mul_div' (x : Rat) (a : Int) {b : Int} (hb : b ≠ 0) : Rat.divInt (x.num * a) (x.den * b) = x * Rat.divInt a b := by
  rw [← Rat.divInt_mul_divInt, Rat.num_divInt_den]
theorem run_times' (d : Nat) {n : Nat} {x : Rat} (hx : sz n x) {a b : Int} (ha : a.natAbs < 1024) (hb : b.natAbs < 1024) (h0 : b ≠ 0) (h : n + 10 ≤ 8192) : G.orc (d + 3) 29 [.d (fr x), .d (.tuple [.int a, .int b])] [] = some (fr (x * Rat.divInt a b), false, []) := by
  rw [orc_fn (d + 2) pg29]
  have he : (x.den : Int) * b ≠ 0 := Int.mul_ne_zero (den_ne x) h0
  have f := run_law_fraction d (x.num * a) ((x.den : Int) * b) he (sm_gcd he (sm_prod (m := 10) hx.nd hb h))
  rw [mul_div' x a h0] at f
  have h1 := hx.num (by omega)
  have h3 := hx.den (by omega)
  have h5 := sm_small ha
  have h6 := sm_small hb
  simp [b29, runFn, sxs_cons, sxs_nil, sx_asg, sx_asgT, sx_alloc, sx_par, sx_if, sx_retV, ret_tup, evn_tup, ret_lst, evn_lst, ret_bin, evn_bin, ret_neg, evn_neg, ret_not, evn_not, ret_cmp, evn_cmp, ret_chain, evn_chain, ret_and, evn_and, ret_or, evn_or, ret_ite, evn_ite, ret_ix, evn_ix, ret_sl, evn_sl, ret_bf, evn_bf, ret_met, evn_met, ret_comp, evn_comp, ret_cst, evn_cst, ret_call, sx_expr, sx_aug, sx_brk, sx_cnt, ev_var, ev_cst, ev_tup, ev_lst, ev_bin, ev_neg, ev_not, ev_cmp, ev_chain, ev_and, ev_or, ev_ite, ev_ix, ev_sl, ev_back, ev_call, ev_bf, ev_met, evn_call, evns, evs, evp, evt, own, setAll, callC, derefs, isRef, op1, op2, dt, vd, vb, Cr.part, intD, deref, items_list, items_tuple, Cr.ixN, ix_tup, ix_list, ix_fr0, ix_fr1, ix_sp0, ix_sp1, ix_gsp0, ix_gsp1, items_fr, items_sp, items_rg, cmp_eqF, cmp_neF, binD, tru_int, tru_bool, bd_nm, bd_tup, bds_nil, bds_cons, frz, frzV, isNew, bfD, metS, metD, isLst, cmp_eqI, cmp_neI, cmp_ltI, cmp_leI, cmp_gtI, cmp_geI, cmp_isNone, cmp_isNoneT, cmp_notNone, cmp_notNoneT, cmp_notB, cmp_isB, cmp_neB, cmp_eqB, bd_sp, bd_gsp, bd_pkd, items_gsp, rf0, rf1, rf2, rf3, rf4, rf5, rf6, rf7, rf8, rf9, rf10, rf11, rf12, rf13, rf14, rf15, rf16, rf17, rf18, rf19, rf20, rf21, rf22, rf23, rf24, rf25, rf26, rf27, rf28, rf29, rf30, rf31, rf32, rf33, rf34, rf35, rf36, rf37, rf38, rf39, rf40, rf41, rf42, rf43, rf44, rf45, h1, h3, h5, h6, f]
theorem run_place (d : Nat) {n : Nat} {o : Cr.PO} (ho : IsSrc o) {r : List Pt} {u v : Pt} (hu : r.head? = some u) (hv : r.getLast? = some v) (zu : szp n u) (zv : szp n v) (hle : u.1 ≤ v.1) (hn : n ≤ 1000) : ∃ (x : Rat) (o' : Cr.PO), sz (3 * n + 12) x ∧ u.1 ≤ x ∧ x ≤ v.1 ∧ IsSrc o' ∧ G.orc (d + 5) 42 [.r 0, .d (rg r)] [o] = some (fr x, false, [o']) := by
  rw [orc_fn (d + 4) pg42]
  obtain ⟨z, o1, a1, a2, s1, p1⟩ := run_pick (d + 3) ho (most := 13) (by omega) (by omega)
  have f1 := run_law_less d zv.1 zu.1 (by omega)
  have f2 := run_times' (d + 1) (sz_sub zv.1 zu.1) (a := z) (b := 12) (by omega) (by omega) (by omega) (by omega)
  have zq := small_fr z 12 (by omega) a1 (by omega) (by omega)
  have f3 := run_law_sum (d + 1) zu.1 (sz_mul (sz_sub zv.1 zu.1) zq) (by omega)
  have e : Rat.divInt z 12 = (z : Rat) / 12 := Rat.divInt_eq_div z 12
  have q0 : (0 : Rat) ≤ (z : Rat) := Rat.intCast_nonneg.mpr a1
  have q1 : (z : Rat) ≤ 12 := by
    have : ((z : Int) : Rat) ≤ ((12 : Int) : Rat) := Rat.intCast_le_intCast.mpr (by omega)
    simpa using this
  have w0 : 0 ≤ (z : Rat) / 12 := by grind
  have w1 : (z : Rat) / 12 ≤ 1 := by grind
  have m0 : 0 ≤ (v.1 - u.1) * ((z : Rat) / 12) := Rat.mul_nonneg (by grind) w0
  have m1 : (v.1 - u.1) * ((z : Rat) / 12) ≤ (v.1 - u.1) * 1 := Rat.mul_le_mul_of_nonneg_left w1 (by grind)
  refine ⟨u.1 + (v.1 - u.1) * Rat.divInt z 12, o1, (sz_add zu.1 (sz_mul (sz_sub zv.1 zu.1) zq)).mono (by omega), ?_, ?_, s1, ?_⟩
  · rw [e]; grind
  · rw [e]; grind
  · simp [b42, runFn, sxs_cons, sxs_nil, sx_asg, sx_asgT, sx_alloc, sx_par, sx_if, sx_retV, ret_tup, evn_tup, ret_lst, evn_lst, ret_bin, evn_bin, ret_neg, evn_neg, ret_not, evn_not, ret_cmp, evn_cmp, ret_chain, evn_chain, ret_and, evn_and, ret_or, evn_or, ret_ite, evn_ite, ret_ix, evn_ix, ret_sl, evn_sl, ret_bf, evn_bf, ret_met, evn_met, ret_comp, evn_comp, ret_cst, evn_cst, ret_call, sx_expr, sx_aug, sx_brk, sx_cnt, ev_var, ev_cst, ev_tup, ev_lst, ev_bin, ev_neg, ev_not, ev_cmp, ev_chain, ev_and, ev_or, ev_ite, ev_ix, ev_sl, ev_back, ev_call, ev_bf, ev_met, evn_call, evns, evs, evp, evt, own, setAll, callC, derefs, isRef, op1, op2, dt, vd, vb, Cr.part, intD, deref, items_list, items_tuple, Cr.ixN, ix_tup, ix_list, ix_fr0, ix_fr1, ix_sp0, ix_sp1, ix_gsp0, ix_gsp1, items_fr, items_sp, items_rg, cmp_eqF, cmp_neF, binD, tru_int, tru_bool, bd_nm, bd_tup, bds_nil, bds_cons, frz, frzV, isNew, bfD, metS, metD, isLst, cmp_eqI, cmp_neI, cmp_ltI, cmp_leI, cmp_gtI, cmp_geI, cmp_isNone, cmp_isNoneT, cmp_notNone, cmp_notNoneT, cmp_notB, cmp_isB, cmp_neB, cmp_eqB, bd_sp, bd_gsp, bd_pkd, items_gsp, rf0, rf1, rf2, rf3, rf4, rf5, rf6, rf7, rf8, rf9, rf10, rf11, rf12, rf13, rf14, rf15, rf16, rf17, rf18, rf19, rf20, rf21, rf22, rf23, rf24, rf25, rf26, rf27, rf28, rf29, rf30, rf31, rf32, rf33, rf34, rf35, rf36, rf37, rf38, rf39, rf40, rf41, rf42, rf43, rf44, rf45, hands, rg_head hu, rg_last hv, p1, f1, f2, f3, line]
/-! ### drawn ridges -/
theorem pick_in (L : List Int) {z : Int} (h0 : 0 ≤ z) (h1 : z < (L.length : Int)) : ∃ v ∈ L, ixD (.list (L.map PyData.int)) (.int z) = some (.int v) := by
  have hz : z.toNat < L.length := by omega
  refine ⟨L[z.toNat], List.getElem_mem hz, ?_⟩
  have := ix_at (D := .list (L.map PyData.int)) (i := z.toNat) (x := .int L[z.toNat]) rfl (by rw [List.getElem?_map, List.getElem?_eq_getElem hz]; rfl)
  rwa [show ((z.toNat : Nat) : Int) = z by omega] at this
section
variable {most turn : Int} {ic : Bool}
theorem ridge_turn (d : Nat) {o : Cr.PO} (ho : IsSrc o) {L : List Int} (hL : 1 ≤ L.length) (hL2 : L.length ≤ 10) (hv : ∀ v ∈ L, 0 ≤ v ∧ v ≤ 8) {x : Int} {acc : List PyData} (ha : acc.length ≤ 1000) (l : Int) (o8 : Option PV) :
    ∃ (q : Rat) (s : Int) (o' : Cr.PO) (p8 : Option PV), sz 5 q ∧ 0 ≤ s ∧ s ≤ 2 ∧ IsSrc o' ∧ sxs ⟨G.refs, G.orc (d + 2)⟩ 1 [(.asg (.nm 8) (.bin .add (.bin .mul (.cst (.int 2)) (.ix (.var 7) (.call 45 [(.var 0), (.bf .len [(.var 7)])]))) (.bf .int [(.cmp .eq (.call 45 [(.var 0), (.cst (.int 5))]) (.cst (.int 0)))]))), (.expr (.met .append (.var 4) [(.tup [(.tup [(.var 2), (.cst (.int 1))]), (.call 27 [(.var 8), (.cst (.int 2))])])])), (.asg (.nm 2) (.bin .add (.bin .add (.var 2) (.cst (.int 1))) (.ite (.var 5) (.bf .int [(.cmp .eq (.call 45 [(.var 0), (.cst (.int 4))]) (.cst (.int 0)))]) (.call 45 [(.var 0), (.cst (.int 3))]))))] ([some (.r 0), some (.d (.int most)), some (.d (.int x)), some (.d (.int turn)), some (.r 1), some (.d (.bool ic)), some (.d (.int l)), some (.d (.list (L.map PyData.int))), o8]) [o, .lst acc] =
      some (.nx ([some (.r 0), some (.d (.int most)), some (.d (.int (x + 1 + s))), some (.d (.int turn)), some (.r 1), some (.d (.bool ic)), some (.d (.int l)), some (.d (.list (L.map PyData.int))), p8]) [o', .lst (acc ++ [sp ((x : Rat), q)])]) := by
  obtain ⟨z1, o1, a1, a2, s1, p1⟩ := run_pick (d + 1) ho (most := (L.length : Int)) (by omega) (by omega)
  obtain ⟨v, hvL, hix⟩ := pick_in L a1 a2
  obtain ⟨v0, v8⟩ := hv v hvL
  obtain ⟨z2, o2, b1, b2, s2, p2⟩ := run_pick (d + 1) s1 (most := 5) (by omega) (by omega)
  obtain ⟨e, he, e0, e1⟩ : ∃ e : Int, (if z2 = 0 then (1 : Int) else 0) = e ∧ 0 ≤ e ∧ e ≤ 1 := ⟨_, rfl, by split <;> omega, by split <;> omega⟩
  have sm2 : sm 2 := sm_small (by decide)
  have smv : sm v := sm_small (by omega)
  have f := run_law_fraction d (2 * v + e) 2 (by omega) (sm_gcd (by omega) sm2)
  have zq := small_fr (2 * v + e) 2 (by omega) (by omega) (by omega) (by omega)
  have hl : acc.length < 16777216 := by omega
  have hsp : PyData.tuple [.tuple [.int x, .int 1], fr (Rat.divInt (2 * v + e) 2)] = sp ((x : Rat), Rat.divInt (2 * v + e) 2) := rfl
  have t8 : sx ⟨G.refs, G.orc (d + 2)⟩ 1 (.asg (.nm 8) (.bin .add (.bin .mul (.cst (.int 2)) (.ix (.var 7) (.call 45 [(.var 0), (.bf .len [(.var 7)])]))) (.bf .int [(.cmp .eq (.call 45 [(.var 0), (.cst (.int 5))]) (.cst (.int 0)))]))) ([some (.r 0), some (.d (.int most)), some (.d (.int x)), some (.d (.int turn)), some (.r 1), some (.d (.bool ic)), some (.d (.int l)), some (.d (.list (L.map PyData.int))), o8]) [o, .lst acc] = some (.nx ([some (.r 0), some (.d (.int most)), some (.d (.int x)), some (.d (.int turn)), some (.r 1), some (.d (.bool ic)), some (.d (.int l)), some (.d (.list (L.map PyData.int))), some (.d (.int (2 * v + e)))]) [o2, .lst acc]) := by
    simp [runFn, sxs_cons, sxs_nil, sx_asg, sx_asgT, sx_alloc, sx_par, sx_if, sx_retV, ret_tup, evn_tup, ret_lst, evn_lst, ret_bin, evn_bin, ret_neg, evn_neg, ret_not, evn_not, ret_cmp, evn_cmp, ret_chain, evn_chain, ret_and, evn_and, ret_or, evn_or, ret_ite, evn_ite, ret_ix, evn_ix, ret_sl, evn_sl, ret_bf, evn_bf, ret_met, evn_met, ret_comp, evn_comp, ret_cst, evn_cst, ret_call, sx_expr, sx_aug, sx_brk, sx_cnt, ev_var, ev_cst, ev_tup, ev_lst, ev_bin, ev_neg, ev_not, ev_cmp, ev_chain, ev_and, ev_or, ev_ite, ev_ix, ev_sl, ev_back, ev_call, ev_bf, ev_met, evn_call, evns, evs, evp, evt, own, setAll, callC, derefs, isRef, op1, op2, dt, vd, vb, Cr.part, intD, deref, items_list, items_tuple, Cr.ixN, ix_tup, ix_fr0, ix_fr1, ix_sp0, ix_sp1, ix_gsp0, ix_gsp1, items_fr, items_sp, items_rg, cmp_eqF, cmp_neF, binD, tru_int, tru_bool, bd_nm, bd_tup, bds_nil, bds_cons, frz, frzV, isNew, bfD, metS, metD, isLst, cmp_eqI, cmp_neI, cmp_ltI, cmp_leI, cmp_gtI, cmp_geI, cmp_isNone, cmp_isNoneT, cmp_notNone, cmp_notNoneT, cmp_notB, cmp_isB, cmp_neB, cmp_eqB, bd_sp, bd_gsp, bd_pkd, items_gsp, rf0, rf1, rf2, rf3, rf4, rf5, rf6, rf7, rf8, rf9, rf10, rf11, rf12, rf13, rf14, rf15, rf16, rf17, rf18, rf19, rf20, rf21, rf22, rf23, rf24, rf25, rf26, rf27, rf28, rf29, rf30, rf31, rf32, rf33, rf34, rf35, rf36, rf37, rf38, rf39, rf40, rf41, rf42, rf43, rf44, rf45, hands, p1, p2, hix, sm2, smv, he]
  have tp : sx ⟨G.refs, G.orc (d + 2)⟩ 1 (.expr (.met .append (.var 4) [(.tup [(.tup [(.var 2), (.cst (.int 1))]), (.call 27 [(.var 8), (.cst (.int 2))])])])) ([some (.r 0), some (.d (.int most)), some (.d (.int x)), some (.d (.int turn)), some (.r 1), some (.d (.bool ic)), some (.d (.int l)), some (.d (.list (L.map PyData.int))), some (.d (.int (2 * v + e)))]) [o2, .lst acc] = some (.nx ([some (.r 0), some (.d (.int most)), some (.d (.int x)), some (.d (.int turn)), some (.r 1), some (.d (.bool ic)), some (.d (.int l)), some (.d (.list (L.map PyData.int))), some (.d (.int (2 * v + e)))]) [o2, .lst (acc ++ [sp ((x : Rat), Rat.divInt (2 * v + e) 2)])]) := by
    rw [← hsp]
    simp [runFn, sxs_cons, sxs_nil, sx_asg, sx_asgT, sx_alloc, sx_par, sx_if, sx_retV, ret_tup, evn_tup, ret_lst, evn_lst, ret_bin, evn_bin, ret_neg, evn_neg, ret_not, evn_not, ret_cmp, evn_cmp, ret_chain, evn_chain, ret_and, evn_and, ret_or, evn_or, ret_ite, evn_ite, ret_ix, evn_ix, ret_sl, evn_sl, ret_bf, evn_bf, ret_met, evn_met, ret_comp, evn_comp, ret_cst, evn_cst, ret_call, sx_expr, sx_aug, sx_brk, sx_cnt, ev_var, ev_cst, ev_tup, ev_lst, ev_bin, ev_neg, ev_not, ev_cmp, ev_chain, ev_and, ev_or, ev_ite, ev_ix, ev_sl, ev_back, ev_call, ev_bf, ev_met, evn_call, evns, evs, evp, evt, own, setAll, callC, derefs, isRef, op1, op2, dt, vd, vb, Cr.part, intD, deref, items_list, items_tuple, Cr.ixN, ix_tup, ix_fr0, ix_fr1, ix_sp0, ix_sp1, ix_gsp0, ix_gsp1, items_fr, items_sp, items_rg, cmp_eqF, cmp_neF, binD, tru_int, tru_bool, bd_nm, bd_tup, bds_nil, bds_cons, frz, frzV, isNew, bfD, metS, metD, isLst, cmp_eqI, cmp_neI, cmp_ltI, cmp_leI, cmp_gtI, cmp_geI, cmp_isNone, cmp_isNoneT, cmp_notNone, cmp_notNoneT, cmp_notB, cmp_isB, cmp_neB, cmp_eqB, bd_sp, bd_gsp, bd_pkd, items_gsp, rf0, rf1, rf2, rf3, rf4, rf5, rf6, rf7, rf8, rf9, rf10, rf11, rf12, rf13, rf14, rf15, rf16, rf17, rf18, rf19, rf20, rf21, rf22, rf23, rf24, rf25, rf26, rf27, rf28, rf29, rf30, rf31, rf32, rf33, rf34, rf35, rf36, rf37, rf38, rf39, rf40, rf41, rf42, rf43, rf44, rf45, f, line, hl]
  cases ic with
  | true =>
    obtain ⟨z3, o3, c1, c2, s3, p3⟩ := run_pick (d + 1) s2 (most := 4) (by omega) (by omega)
    obtain ⟨s, hs, q0, q1⟩ : ∃ s : Int, (if z3 = 0 then (1 : Int) else 0) = s ∧ 0 ≤ s ∧ s ≤ 1 := ⟨_, rfl, by split <;> omega, by split <;> omega⟩
    refine ⟨_, s, o3, some (.d (.int (2 * v + e))), zq, q0, by omega, s3, ?_⟩
    rw [sxs_cons, t8]
    simp only [Option.bind_some]
    rw [sxs_cons, tp]
    simp [runFn, sxs_cons, sxs_nil, sx_asg, sx_asgT, sx_alloc, sx_par, sx_if, sx_retV, ret_tup, evn_tup, ret_lst, evn_lst, ret_bin, evn_bin, ret_neg, evn_neg, ret_not, evn_not, ret_cmp, evn_cmp, ret_chain, evn_chain, ret_and, evn_and, ret_or, evn_or, ret_ite, evn_ite, ret_ix, evn_ix, ret_sl, evn_sl, ret_bf, evn_bf, ret_met, evn_met, ret_comp, evn_comp, ret_cst, evn_cst, ret_call, sx_expr, sx_aug, sx_brk, sx_cnt, ev_var, ev_cst, ev_tup, ev_lst, ev_bin, ev_neg, ev_not, ev_cmp, ev_chain, ev_and, ev_or, ev_ite, ev_ix, ev_sl, ev_back, ev_call, ev_bf, ev_met, evn_call, evns, evs, evp, evt, own, setAll, callC, derefs, isRef, op1, op2, dt, vd, vb, Cr.part, intD, deref, items_list, items_tuple, Cr.ixN, ix_tup, ix_fr0, ix_fr1, ix_sp0, ix_sp1, ix_gsp0, ix_gsp1, items_fr, items_sp, items_rg, cmp_eqF, cmp_neF, binD, tru_int, tru_bool, bd_nm, bd_tup, bds_nil, bds_cons, frz, frzV, isNew, bfD, metS, metD, isLst, cmp_eqI, cmp_neI, cmp_ltI, cmp_leI, cmp_gtI, cmp_geI, cmp_isNone, cmp_isNoneT, cmp_notNone, cmp_notNoneT, cmp_notB, cmp_isB, cmp_neB, cmp_eqB, bd_sp, bd_gsp, bd_pkd, items_gsp, rf0, rf1, rf2, rf3, rf4, rf5, rf6, rf7, rf8, rf9, rf10, rf11, rf12, rf13, rf14, rf15, rf16, rf17, rf18, rf19, rf20, rf21, rf22, rf23, rf24, rf25, rf26, rf27, rf28, rf29, rf30, rf31, rf32, rf33, rf34, rf35, rf36, rf37, rf38, rf39, rf40, rf41, rf42, rf43, rf44, rf45, hands, p3, hs]
  | false =>
    obtain ⟨z3, o3, c1, c2, s3, p3⟩ := run_pick (d + 1) s2 (most := 3) (by omega) (by omega)
    refine ⟨_, z3, o3, some (.d (.int (2 * v + e))), zq, c1, by omega, s3, ?_⟩
    rw [sxs_cons, t8]
    simp only [Option.bind_some]
    rw [sxs_cons, tp]
    simp [runFn, sxs_cons, sxs_nil, sx_asg, sx_asgT, sx_alloc, sx_par, sx_if, sx_retV, ret_tup, evn_tup, ret_lst, evn_lst, ret_bin, evn_bin, ret_neg, evn_neg, ret_not, evn_not, ret_cmp, evn_cmp, ret_chain, evn_chain, ret_and, evn_and, ret_or, evn_or, ret_ite, evn_ite, ret_ix, evn_ix, ret_sl, evn_sl, ret_bf, evn_bf, ret_met, evn_met, ret_comp, evn_comp, ret_cst, evn_cst, ret_call, sx_expr, sx_aug, sx_brk, sx_cnt, ev_var, ev_cst, ev_tup, ev_lst, ev_bin, ev_neg, ev_not, ev_cmp, ev_chain, ev_and, ev_or, ev_ite, ev_ix, ev_sl, ev_back, ev_call, ev_bf, ev_met, evn_call, evns, evs, evp, evt, own, setAll, callC, derefs, isRef, op1, op2, dt, vd, vb, Cr.part, intD, deref, items_list, items_tuple, Cr.ixN, ix_tup, ix_fr0, ix_fr1, ix_sp0, ix_sp1, ix_gsp0, ix_gsp1, items_fr, items_sp, items_rg, cmp_eqF, cmp_neF, binD, tru_int, tru_bool, bd_nm, bd_tup, bds_nil, bds_cons, frz, frzV, isNew, bfD, metS, metD, isLst, cmp_eqI, cmp_neI, cmp_ltI, cmp_leI, cmp_gtI, cmp_geI, cmp_isNone, cmp_isNoneT, cmp_notNone, cmp_notNoneT, cmp_notB, cmp_isB, cmp_neB, cmp_eqB, bd_sp, bd_gsp, bd_pkd, items_gsp, rf0, rf1, rf2, rf3, rf4, rf5, rf6, rf7, rf8, rf9, rf10, rf11, rf12, rf13, rf14, rf15, rf16, rf17, rf18, rf19, rf20, rf21, rf22, rf23, rf24, rf25, rf26, rf27, rf28, rf29, rf30, rf31, rf32, rf33, rf34, rf35, rf36, rf37, rf38, rf39, rf40, rf41, rf42, rf43, rf44, rf45, hands, p3]
theorem ridge_step (d : Nat) {o : Cr.PO} (ho : IsSrc o) {x : Int} {acc : List PyData} (ha : acc.length ≤ 1000) (l : Int) (o7 o8 : Option PV) :
    ∃ (q : Rat) (s : Int) (o' : Cr.PO) (p7 p8 : Option PV), sz 5 q ∧ 0 ≤ s ∧ s ≤ 2 ∧ IsSrc o' ∧ sxs ⟨G.refs, G.orc (d + 2)⟩ 1 [(.asg (.nm 7) (.lst [(.cst (.int 0)), (.cst (.int 0)), (.cst (.int 1)), (.cst (.int 3)), (.cst (.int 5)), (.cst (.int 8))])), (.sif (.var 5) [.asg (.nm 7) (.ite (.cmp .eq (.bin .mod (.bf .int [(.bin .add (.var 6) (.var 3))]) (.cst (.int 3))) (.cst (.int 1))) (.lst [(.cst (.int 0)), (.cst (.int 0)), (.cst (.int 1)), (.cst (.int 2))]) (.lst [(.cst (.int 6)), (.cst (.int 7)), (.cst (.int 8)), (.cst (.int 8))]))] []), (.asg (.nm 8) (.bin .add (.bin .mul (.cst (.int 2)) (.ix (.var 7) (.call 45 [(.var 0), (.bf .len [(.var 7)])]))) (.bf .int [(.cmp .eq (.call 45 [(.var 0), (.cst (.int 5))]) (.cst (.int 0)))]))), (.expr (.met .append (.var 4) [(.tup [(.tup [(.var 2), (.cst (.int 1))]), (.call 27 [(.var 8), (.cst (.int 2))])])])), (.asg (.nm 2) (.bin .add (.bin .add (.var 2) (.cst (.int 1))) (.ite (.var 5) (.bf .int [(.cmp .eq (.call 45 [(.var 0), (.cst (.int 4))]) (.cst (.int 0)))]) (.call 45 [(.var 0), (.cst (.int 3))]))))] ([some (.r 0), some (.d (.int most)), some (.d (.int x)), some (.d (.int turn)), some (.r 1), some (.d (.bool ic)), some (.d (.int l)), o7, o8]) [o, .lst acc] =
      some (.nx ([some (.r 0), some (.d (.int most)), some (.d (.int (x + 1 + s))), some (.d (.int turn)), some (.r 1), some (.d (.bool ic)), some (.d (.int l)), p7, p8]) [o', .lst (acc ++ [sp ((x : Rat), q)])]) := by
  have t7 : ∀ o7 o8 : Option PV, sx ⟨G.refs, G.orc (d + 2)⟩ 1 (.asg (.nm 7) (.lst [(.cst (.int 0)), (.cst (.int 0)), (.cst (.int 1)), (.cst (.int 3)), (.cst (.int 5)), (.cst (.int 8))])) ([some (.r 0), some (.d (.int most)), some (.d (.int x)), some (.d (.int turn)), some (.r 1), some (.d (.bool ic)), some (.d (.int l)), o7, o8]) [o, .lst acc] = some (.nx ([some (.r 0), some (.d (.int most)), some (.d (.int x)), some (.d (.int turn)), some (.r 1), some (.d (.bool ic)), some (.d (.int l)), some (.d (.list ([0, 0, 1, 3, 5, 8].map PyData.int))), o8]) [o, .lst acc]) := by
    intro o7 o8
    simp [runFn, sxs_cons, sxs_nil, sx_asg, sx_asgT, sx_alloc, sx_par, sx_if, sx_retV, ret_tup, evn_tup, ret_lst, evn_lst, ret_bin, evn_bin, ret_neg, evn_neg, ret_not, evn_not, ret_cmp, evn_cmp, ret_chain, evn_chain, ret_and, evn_and, ret_or, evn_or, ret_ite, evn_ite, ret_ix, evn_ix, ret_sl, evn_sl, ret_bf, evn_bf, ret_met, evn_met, ret_comp, evn_comp, ret_cst, evn_cst, ret_call, sx_expr, sx_aug, sx_brk, sx_cnt, ev_var, ev_cst, ev_tup, ev_lst, ev_bin, ev_neg, ev_not, ev_cmp, ev_chain, ev_and, ev_or, ev_ite, ev_ix, ev_sl, ev_back, ev_call, ev_bf, ev_met, evn_call, evns, evs, evp, evt, own, setAll, callC, derefs, isRef, op1, op2, dt, vd, vb, Cr.part, intD, deref, items_list, items_tuple, Cr.ixN, ix_tup, ix_list, ix_fr0, ix_fr1, ix_sp0, ix_sp1, ix_gsp0, ix_gsp1, items_fr, items_sp, items_rg, cmp_eqF, cmp_neF, binD, tru_int, tru_bool, bd_nm, bd_tup, bds_nil, bds_cons, frz, frzV, isNew, bfD, metS, metD, isLst, cmp_eqI, cmp_neI, cmp_ltI, cmp_leI, cmp_gtI, cmp_geI, cmp_isNone, cmp_isNoneT, cmp_notNone, cmp_notNoneT, cmp_notB, cmp_isB, cmp_neB, cmp_eqB, bd_sp, bd_gsp, bd_pkd, items_gsp, line]
  obtain ⟨L, hL, hL2, hv, ts⟩ : ∃ L : List Int, 1 ≤ L.length ∧ L.length ≤ 10 ∧ (∀ v ∈ L, 0 ≤ v ∧ v ≤ 8) ∧ sx ⟨G.refs, G.orc (d + 2)⟩ 1 (.sif (.var 5) [.asg (.nm 7) (.ite (.cmp .eq (.bin .mod (.bf .int [(.bin .add (.var 6) (.var 3))]) (.cst (.int 3))) (.cst (.int 1))) (.lst [(.cst (.int 0)), (.cst (.int 0)), (.cst (.int 1)), (.cst (.int 2))]) (.lst [(.cst (.int 6)), (.cst (.int 7)), (.cst (.int 8)), (.cst (.int 8))]))] []) ([some (.r 0), some (.d (.int most)), some (.d (.int x)), some (.d (.int turn)), some (.r 1), some (.d (.bool ic)), some (.d (.int l)), some (.d (.list ([0, 0, 1, 3, 5, 8].map PyData.int))), o8]) [o, .lst acc] = some (.nx ([some (.r 0), some (.d (.int most)), some (.d (.int x)), some (.d (.int turn)), some (.r 1), some (.d (.bool ic)), some (.d (.int l)), some (.d (.list (L.map PyData.int))), o8]) [o, .lst acc]) := by
    cases ic with
    | false => exact ⟨[0, 0, 1, 3, 5, 8], by decide, by decide, by decide, by simp [runFn, sxs_cons, sxs_nil, sx_asg, sx_asgT, sx_alloc, sx_par, sx_if, sx_retV, ret_tup, evn_tup, ret_lst, evn_lst, ret_bin, evn_bin, ret_neg, evn_neg, ret_not, evn_not, ret_cmp, evn_cmp, ret_chain, evn_chain, ret_and, evn_and, ret_or, evn_or, ret_ite, evn_ite, ret_ix, evn_ix, ret_sl, evn_sl, ret_bf, evn_bf, ret_met, evn_met, ret_comp, evn_comp, ret_cst, evn_cst, ret_call, sx_expr, sx_aug, sx_brk, sx_cnt, ev_var, ev_cst, ev_tup, ev_lst, ev_bin, ev_neg, ev_not, ev_cmp, ev_chain, ev_and, ev_or, ev_ite, ev_ix, ev_sl, ev_back, ev_call, ev_bf, ev_met, evn_call, evns, evs, evp, evt, own, setAll, callC, derefs, isRef, op1, op2, dt, vd, vb, Cr.part, intD, deref, items_list, items_tuple, Cr.ixN, ix_tup, ix_list, ix_fr0, ix_fr1, ix_sp0, ix_sp1, ix_gsp0, ix_gsp1, items_fr, items_sp, items_rg, cmp_eqF, cmp_neF, binD, tru_int, tru_bool, bd_nm, bd_tup, bds_nil, bds_cons, frz, frzV, isNew, bfD, metS, metD, isLst, cmp_eqI, cmp_neI, cmp_ltI, cmp_leI, cmp_gtI, cmp_geI, cmp_isNone, cmp_isNoneT, cmp_notNone, cmp_notNoneT, cmp_notB, cmp_isB, cmp_neB, cmp_eqB, bd_sp, bd_gsp, bd_pkd, items_gsp]⟩
    | true =>
      by_cases c : (l + turn).fmod 3 = 1
      · exact ⟨[0, 0, 1, 2], by decide, by decide, by decide, by simp [runFn, sxs_cons, sxs_nil, sx_asg, sx_asgT, sx_alloc, sx_par, sx_if, sx_retV, ret_tup, evn_tup, ret_lst, evn_lst, ret_bin, evn_bin, ret_neg, evn_neg, ret_not, evn_not, ret_cmp, evn_cmp, ret_chain, evn_chain, ret_and, evn_and, ret_or, evn_or, ret_ite, evn_ite, ret_ix, evn_ix, ret_sl, evn_sl, ret_bf, evn_bf, ret_met, evn_met, ret_comp, evn_comp, ret_cst, evn_cst, ret_call, sx_expr, sx_aug, sx_brk, sx_cnt, ev_var, ev_cst, ev_tup, ev_lst, ev_bin, ev_neg, ev_not, ev_cmp, ev_chain, ev_and, ev_or, ev_ite, ev_ix, ev_sl, ev_back, ev_call, ev_bf, ev_met, evn_call, evns, evs, evp, evt, own, setAll, callC, derefs, isRef, op1, op2, dt, vd, vb, Cr.part, intD, deref, items_list, items_tuple, Cr.ixN, ix_tup, ix_list, ix_fr0, ix_fr1, ix_sp0, ix_sp1, ix_gsp0, ix_gsp1, items_fr, items_sp, items_rg, cmp_eqF, cmp_neF, binD, tru_int, tru_bool, bd_nm, bd_tup, bds_nil, bds_cons, frz, frzV, isNew, bfD, metS, metD, isLst, cmp_eqI, cmp_neI, cmp_ltI, cmp_leI, cmp_gtI, cmp_geI, cmp_isNone, cmp_isNoneT, cmp_notNone, cmp_notNoneT, cmp_notB, cmp_isB, cmp_neB, cmp_eqB, bd_sp, bd_gsp, bd_pkd, items_gsp, line, c]⟩
      · exact ⟨[6, 7, 8, 8], by decide, by decide, by decide, by simp [runFn, sxs_cons, sxs_nil, sx_asg, sx_asgT, sx_alloc, sx_par, sx_if, sx_retV, ret_tup, evn_tup, ret_lst, evn_lst, ret_bin, evn_bin, ret_neg, evn_neg, ret_not, evn_not, ret_cmp, evn_cmp, ret_chain, evn_chain, ret_and, evn_and, ret_or, evn_or, ret_ite, evn_ite, ret_ix, evn_ix, ret_sl, evn_sl, ret_bf, evn_bf, ret_met, evn_met, ret_comp, evn_comp, ret_cst, evn_cst, ret_call, sx_expr, sx_aug, sx_brk, sx_cnt, ev_var, ev_cst, ev_tup, ev_lst, ev_bin, ev_neg, ev_not, ev_cmp, ev_chain, ev_and, ev_or, ev_ite, ev_ix, ev_sl, ev_back, ev_call, ev_bf, ev_met, evn_call, evns, evs, evp, evt, own, setAll, callC, derefs, isRef, op1, op2, dt, vd, vb, Cr.part, intD, deref, items_list, items_tuple, Cr.ixN, ix_tup, ix_list, ix_fr0, ix_fr1, ix_sp0, ix_sp1, ix_gsp0, ix_gsp1, items_fr, items_sp, items_rg, cmp_eqF, cmp_neF, binD, tru_int, tru_bool, bd_nm, bd_tup, bds_nil, bds_cons, frz, frzV, isNew, bfD, metS, metD, isLst, cmp_eqI, cmp_neI, cmp_ltI, cmp_leI, cmp_gtI, cmp_geI, cmp_isNone, cmp_isNoneT, cmp_notNone, cmp_notNoneT, cmp_notB, cmp_isB, cmp_neB, cmp_eqB, bd_sp, bd_gsp, bd_pkd, items_gsp, line, c]⟩
  obtain ⟨q, s, o', p8, h1, h2, h3, h4, e⟩ := ridge_turn (most := most) (turn := turn) (ic := ic) d ho hL hL2 hv (x := x) ha l o8
  refine ⟨q, s, o', some (.d (.list (L.map PyData.int))), p8, h1, h2, h3, h4, ?_⟩
  rw [sxs_cons, t7]
  simp only [Option.bind_some]
  rw [sxs_cons, ts]
  simp only [Option.bind_some]
  exact e
end
/-! ### a drawn ridge -/
section
variable {most turn : Int} {ic : Bool}
/-- corners from x on, from left to right -/
structure Ris (x : Int) (pts : List Pt) : Prop where
  up : pts.Pairwise fun a b => a.1 < b.1
  ge : ∀ c ∈ pts, (x : Rat) ≤ c.1
  sz : ∀ c ∈ pts, szp 8 c
theorem ridge_loop (d : Nat) (g : Store → Prop) (hg : ∀ S, g S) : ∀ (m : Nat) (k : Int) {o : Cr.PO} (ho : IsSrc o) {x : Int} (hx : x.natAbs + 3 * m ≤ 200) {acc : List PyData} (ha : acc.length + m ≤ 1000) (o6 o7 o8 : Option PV),
    ∃ (new : List Pt) (o' : Cr.PO) (x' : Int) (p6 p7 p8 : Option PV), new.length = m ∧ Ris x new ∧ IsSrc o' ∧
      forL g (fun (y : PyData) (ρ : Ev) (S : Store) => (bd (.nm 6) y ρ).bind fun ρ1 => sxs ⟨G.refs, G.orc (d + 2)⟩ 1 [(.asg (.nm 7) (.lst [(.cst (.int 0)), (.cst (.int 0)), (.cst (.int 1)), (.cst (.int 3)), (.cst (.int 5)), (.cst (.int 8))])), (.sif (.var 5) [.asg (.nm 7) (.ite (.cmp .eq (.bin .mod (.bf .int [(.bin .add (.var 6) (.var 3))]) (.cst (.int 3))) (.cst (.int 1))) (.lst [(.cst (.int 0)), (.cst (.int 0)), (.cst (.int 1)), (.cst (.int 2))]) (.lst [(.cst (.int 6)), (.cst (.int 7)), (.cst (.int 8)), (.cst (.int 8))]))] []), (.asg (.nm 8) (.bin .add (.bin .mul (.cst (.int 2)) (.ix (.var 7) (.call 45 [(.var 0), (.bf .len [(.var 7)])]))) (.bf .int [(.cmp .eq (.call 45 [(.var 0), (.cst (.int 5))]) (.cst (.int 0)))]))), (.expr (.met .append (.var 4) [(.tup [(.tup [(.var 2), (.cst (.int 1))]), (.call 27 [(.var 8), (.cst (.int 2))])])])), (.asg (.nm 2) (.bin .add (.bin .add (.var 2) (.cst (.int 1))) (.ite (.var 5) (.bf .int [(.cmp .eq (.call 45 [(.var 0), (.cst (.int 4))]) (.cst (.int 0)))]) (.call 45 [(.var 0), (.cst (.int 3))]))))] ρ1 S) (rangeL k (k + m)) ([some (.r 0), some (.d (.int most)), some (.d (.int x)), some (.d (.int turn)), some (.r 1), some (.d (.bool ic)), o6, o7, o8]) [o, .lst acc] =
        some (.nx ([some (.r 0), some (.d (.int most)), some (.d (.int x')), some (.d (.int turn)), some (.r 1), some (.d (.bool ic)), p6, p7, p8]) [o', .lst (acc ++ new.map sp)])
  | 0, k, o, ho, x, hx, acc, ha, o6, o7, o8 => ⟨[], o, x, o6, o7, o8, rfl, ⟨.nil, by simp, by simp⟩, ho, by rw [rangeL_nil (by omega), forL_nil (hg _)]; simp⟩
  | m + 1, k, o, ho, x, hx, acc, ha, o6, o7, o8 => by
    obtain ⟨q, s, o1, p7, p8, h1, h2, h3, h4, e1⟩ := ridge_step (most := most) (turn := turn) (ic := ic) d ho (x := x) (acc := acc) (by omega) k o7 o8
    obtain ⟨new, o', x', q6, q7, q8, hn, hr, hs, e2⟩ := ridge_loop d g hg m (k + 1) h4 (x := x + 1 + s) (by omega) (acc := acc ++ [sp ((x : Rat), q)]) (by simp; omega) (some (.d (.int k))) p7 p8
    have hlt : (x : Rat) < ((x + 1 + s : Int) : Rat) := Rat.intCast_lt_intCast.mpr (by omega)
    refine ⟨((x : Rat), q) :: new, o', x', q6, q7, q8, by simp [hn], ⟨List.pairwise_cons.mpr ⟨fun c hc => ?_, hr.up⟩, fun c hc => ?_, fun c hc => ?_⟩, hs, ?_⟩
    · have := hr.ge c hc
      show (x : Rat) < c.1
      grind
    · rcases List.mem_cons.mp hc with rfl | hc
      · exact Rat.le_refl
      · have := hr.ge c hc
        grind
    · rcases List.mem_cons.mp hc with rfl | hc
      · exact ⟨sz_int (by have : (2 : Nat) ^ 8 = 256 := by decide
                          omega) (by omega), h1.mono (by omega)⟩
      · exact hr.sz c hc
    · rw [show (k + ((m + 1 : Nat) : Int)) = k + 1 + (m : Int) by omega, rangeL_cons (by omega), forL_cons (hg _) (ρ' := ([some (.r 0), some (.d (.int most)), some (.d (.int (x + 1 + s))), some (.d (.int turn)), some (.r 1), some (.d (.bool ic)), some (.d (.int k)), p7, p8])) (S' := [o1, .lst (acc ++ [sp ((x : Rat), q)])]) ?_, e2]
      · simp
      · simp only [bd_nm, Option.bind_some]
        exact e1
end
theorem run_ridge (d : Nat) {o : Cr.PO} (ho : IsSrc o) {most : Int} (h2 : 2 ≤ most) (h3 : most ≤ 20) : ∃ (r : List Pt) (o' : Cr.PO), 2 ≤ r.length ∧ r.length ≤ 30 ∧ r.Pairwise (fun a b => a.1 < b.1) ∧ (∀ c ∈ r, szp 8 c) ∧ IsSrc o' ∧ G.orc (d + 3) 40 [.r 0, .d (.int most)] [o] = some (rg r, false, [o']) := by
  rw [orc_fn (d + 2) pg40]
  obtain ⟨z1, o1, a1, a2, s1, p1⟩ := run_pick (d + 1) ho (most := 7) (by omega) (by omega)
  obtain ⟨turn, o2, b1, b2, s2, p2⟩ := run_pick (d + 1) s1 (most := 3) (by omega) (by omega)
  -- is it a comb
  obtain ⟨ic, o3, s3, hic⟩ : ∃ (ic : Bool) (o3 : Cr.PO), IsSrc o3 ∧ ∀ o5 o6 o7 o8 : Option PV, sx ⟨G.refs, G.orc (d + 2)⟩ 1 (.asg (.nm 5) (.and (.cmp .gt (.var 1) (.cst (.int 4))) (.cmp .eq (.call 45 [(.var 0), (.cst (.int 2))]) (.cst (.int 0))))) [some (.r 0), some (.d (.int most)), some (.d (.int (z1 - 3))), some (.d (.int turn)), some (.r 1), o5, o6, o7, o8] [o2, .lst []] = some (.nx [some (.r 0), some (.d (.int most)), some (.d (.int (z1 - 3))), some (.d (.int turn)), some (.r 1), some (.d (.bool ic)), o6, o7, o8] [o3, .lst []]) := by
    by_cases c : 4 < most
    · obtain ⟨z3, o3, c1, c2, s3, p3⟩ := run_pick (d + 1) s2 (most := 2) (by omega) (by omega)
      exact ⟨decide (z3 = 0), o3, s3, fun o5 o6 o7 o8 => by simp [runFn, sxs_cons, sxs_nil, sx_asg, sx_asgT, sx_alloc, sx_par, sx_if, sx_retV, ret_tup, evn_tup, ret_lst, evn_lst, ret_bin, evn_bin, ret_neg, evn_neg, ret_not, evn_not, ret_cmp, evn_cmp, ret_chain, evn_chain, ret_and, evn_and, ret_or, evn_or, ret_ite, evn_ite, ret_ix, evn_ix, ret_sl, evn_sl, ret_bf, evn_bf, ret_met, evn_met, ret_comp, evn_comp, ret_cst, evn_cst, ret_call, sx_expr, sx_aug, sx_brk, sx_cnt, ev_var, ev_cst, ev_tup, ev_lst, ev_bin, ev_neg, ev_not, ev_cmp, ev_chain, ev_and, ev_or, ev_ite, ev_ix, ev_sl, ev_back, ev_call, ev_bf, ev_met, evn_call, evns, evs, evp, evt, own, setAll, callC, derefs, isRef, op1, op2, dt, vd, vb, Cr.part, intD, deref, items_list, items_tuple, Cr.ixN, ix_tup, ix_list, ix_fr0, ix_fr1, ix_sp0, ix_sp1, ix_gsp0, ix_gsp1, items_fr, items_sp, items_rg, cmp_eqF, cmp_neF, binD, tru_int, tru_bool, bd_nm, bd_tup, bds_nil, bds_cons, frz, frzV, isNew, bfD, metS, metD, isLst, cmp_eqI, cmp_neI, cmp_ltI, cmp_leI, cmp_gtI, cmp_geI, cmp_isNone, cmp_isNoneT, cmp_notNone, cmp_notNoneT, cmp_notB, cmp_isB, cmp_neB, cmp_eqB, bd_sp, bd_gsp, bd_pkd, items_gsp, rf0, rf1, rf2, rf3, rf4, rf5, rf6, rf7, rf8, rf9, rf10, rf11, rf12, rf13, rf14, rf15, rf16, rf17, rf18, rf19, rf20, rf21, rf22, rf23, rf24, rf25, rf26, rf27, rf28, rf29, rf30, rf31, rf32, rf33, rf34, rf35, rf36, rf37, rf38, rf39, rf40, rf41, rf42, rf43, rf44, rf45, hands, c, p3]⟩
    · exact ⟨false, o2, s2, fun o5 o6 o7 o8 => by simp [runFn, sxs_cons, sxs_nil, sx_asg, sx_asgT, sx_alloc, sx_par, sx_if, sx_retV, ret_tup, evn_tup, ret_lst, evn_lst, ret_bin, evn_bin, ret_neg, evn_neg, ret_not, evn_not, ret_cmp, evn_cmp, ret_chain, evn_chain, ret_and, evn_and, ret_or, evn_or, ret_ite, evn_ite, ret_ix, evn_ix, ret_sl, evn_sl, ret_bf, evn_bf, ret_met, evn_met, ret_comp, evn_comp, ret_cst, evn_cst, ret_call, sx_expr, sx_aug, sx_brk, sx_cnt, ev_var, ev_cst, ev_tup, ev_lst, ev_bin, ev_neg, ev_not, ev_cmp, ev_chain, ev_and, ev_or, ev_ite, ev_ix, ev_sl, ev_back, ev_call, ev_bf, ev_met, evn_call, evns, evs, evp, evt, own, setAll, callC, derefs, isRef, op1, op2, dt, vd, vb, Cr.part, intD, deref, items_list, items_tuple, Cr.ixN, ix_tup, ix_list, ix_fr0, ix_fr1, ix_sp0, ix_sp1, ix_gsp0, ix_gsp1, items_fr, items_sp, items_rg, cmp_eqF, cmp_neF, binD, tru_int, tru_bool, bd_nm, bd_tup, bds_nil, bds_cons, frz, frzV, isNew, bfD, metS, metD, isLst, cmp_eqI, cmp_neI, cmp_ltI, cmp_leI, cmp_gtI, cmp_geI, cmp_isNone, cmp_isNoneT, cmp_notNone, cmp_notNoneT, cmp_notB, cmp_isB, cmp_neB, cmp_eqB, bd_sp, bd_gsp, bd_pkd, items_gsp, c]⟩
  -- how many
  obtain ⟨m, o4, m2, m30, s4, hm⟩ : ∃ (m : Nat) (o4 : Cr.PO), 2 ≤ m ∧ m ≤ 30 ∧ IsSrc o4 ∧ ∀ o6 o7 o8 : Option PV, evi ⟨G.refs, G.orc (d + 2)⟩ (.rng (.cst (.int 0)) (.ite (.var 5) (.bin .add (.var 1) (.call 45 [(.var 0), (.cst (.int 3))])) (.bin .add (.cst (.int 2)) (.call 45 [(.var 0), (.bin .sub (.var 1) (.cst (.int 1)))])))) [some (.r 0), some (.d (.int most)), some (.d (.int (z1 - 3))), some (.d (.int turn)), some (.r 1), some (.d (.bool ic)), o6, o7, o8] [o3, .lst []] = some ((rangeL 0 (0 + (m : Int)), fun _ => True), [o4, .lst []]) := by
    cases ic with
    | true =>
      obtain ⟨z3, o4, c1, c2, s4, p4⟩ := run_pick (d + 1) s3 (most := 3) (by omega) (by omega)
      refine ⟨(most + z3).toNat, o4, by omega, by omega, s4, fun o6 o7 o8 => ?_⟩
      have e0 : (0 : Int) + (((most + z3).toNat : Nat) : Int) = most + z3 := by omega
      rw [e0]
      refine evi_rng (x := .int 0) (y := .int (most + z3)) (S1 := [o3, .lst []]) (by simp [ev_cst]) ?_ (rng_ok (by omega) (by omega) (by omega) (by omega))
      simp [runFn, sxs_cons, sxs_nil, sx_asg, sx_asgT, sx_alloc, sx_par, sx_if, sx_retV, ret_tup, evn_tup, ret_lst, evn_lst, ret_bin, evn_bin, ret_neg, evn_neg, ret_not, evn_not, ret_cmp, evn_cmp, ret_chain, evn_chain, ret_and, evn_and, ret_or, evn_or, ret_ite, evn_ite, ret_ix, evn_ix, ret_sl, evn_sl, ret_bf, evn_bf, ret_met, evn_met, ret_comp, evn_comp, ret_cst, evn_cst, ret_call, sx_expr, sx_aug, sx_brk, sx_cnt, ev_var, ev_cst, ev_tup, ev_lst, ev_bin, ev_neg, ev_not, ev_cmp, ev_chain, ev_and, ev_or, ev_ite, ev_ix, ev_sl, ev_back, ev_call, ev_bf, ev_met, evn_call, evns, evs, evp, evt, own, setAll, callC, derefs, isRef, op1, op2, dt, vd, vb, Cr.part, intD, deref, items_list, items_tuple, Cr.ixN, ix_tup, ix_list, ix_fr0, ix_fr1, ix_sp0, ix_sp1, ix_gsp0, ix_gsp1, items_fr, items_sp, items_rg, cmp_eqF, cmp_neF, binD, tru_int, tru_bool, bd_nm, bd_tup, bds_nil, bds_cons, frz, frzV, isNew, bfD, metS, metD, isLst, cmp_eqI, cmp_neI, cmp_ltI, cmp_leI, cmp_gtI, cmp_geI, cmp_isNone, cmp_isNoneT, cmp_notNone, cmp_notNoneT, cmp_notB, cmp_isB, cmp_neB, cmp_eqB, bd_sp, bd_gsp, bd_pkd, items_gsp, rf0, rf1, rf2, rf3, rf4, rf5, rf6, rf7, rf8, rf9, rf10, rf11, rf12, rf13, rf14, rf15, rf16, rf17, rf18, rf19, rf20, rf21, rf22, rf23, rf24, rf25, rf26, rf27, rf28, rf29, rf30, rf31, rf32, rf33, rf34, rf35, rf36, rf37, rf38, rf39, rf40, rf41, rf42, rf43, rf44, rf45, hands, p4]
    | false =>
      obtain ⟨z3, o4, c1, c2, s4, p4⟩ := run_pick (d + 1) s3 (most := most - 1) (by omega) (by omega)
      refine ⟨(2 + z3).toNat, o4, by omega, by omega, s4, fun o6 o7 o8 => ?_⟩
      have e0 : (0 : Int) + (((2 + z3).toNat : Nat) : Int) = 2 + z3 := by omega
      rw [e0]
      refine evi_rng (x := .int 0) (y := .int (2 + z3)) (S1 := [o3, .lst []]) (by simp [ev_cst]) ?_ (rng_ok (by omega) (by omega) (by omega) (by omega))
      simp [runFn, sxs_cons, sxs_nil, sx_asg, sx_asgT, sx_alloc, sx_par, sx_if, sx_retV, ret_tup, evn_tup, ret_lst, evn_lst, ret_bin, evn_bin, ret_neg, evn_neg, ret_not, evn_not, ret_cmp, evn_cmp, ret_chain, evn_chain, ret_and, evn_and, ret_or, evn_or, ret_ite, evn_ite, ret_ix, evn_ix, ret_sl, evn_sl, ret_bf, evn_bf, ret_met, evn_met, ret_comp, evn_comp, ret_cst, evn_cst, ret_call, sx_expr, sx_aug, sx_brk, sx_cnt, ev_var, ev_cst, ev_tup, ev_lst, ev_bin, ev_neg, ev_not, ev_cmp, ev_chain, ev_and, ev_or, ev_ite, ev_ix, ev_sl, ev_back, ev_call, ev_bf, ev_met, evn_call, evns, evs, evp, evt, own, setAll, callC, derefs, isRef, op1, op2, dt, vd, vb, Cr.part, intD, deref, items_list, items_tuple, Cr.ixN, ix_tup, ix_list, ix_fr0, ix_fr1, ix_sp0, ix_sp1, ix_gsp0, ix_gsp1, items_fr, items_sp, items_rg, cmp_eqF, cmp_neF, binD, tru_int, tru_bool, bd_nm, bd_tup, bds_nil, bds_cons, frz, frzV, isNew, bfD, metS, metD, isLst, cmp_eqI, cmp_neI, cmp_ltI, cmp_leI, cmp_gtI, cmp_geI, cmp_isNone, cmp_isNoneT, cmp_notNone, cmp_notNoneT, cmp_notB, cmp_isB, cmp_neB, cmp_eqB, bd_sp, bd_gsp, bd_pkd, items_gsp, rf0, rf1, rf2, rf3, rf4, rf5, rf6, rf7, rf8, rf9, rf10, rf11, rf12, rf13, rf14, rf15, rf16, rf17, rf18, rf19, rf20, rf21, rf22, rf23, rf24, rf25, rf26, rf27, rf28, rf29, rf30, rf31, rf32, rf33, rf34, rf35, rf36, rf37, rf38, rf39, rf40, rf41, rf42, rf43, rf44, rf45, hands, p4]
  obtain ⟨r, o5, x', p6, p7, p8, hn, hr, s5, e5⟩ := ridge_loop (most := most) (turn := turn) (ic := ic) d (fun _ => True) (fun _ => trivial) m 0 s4 (x := z1 - 3) (by omega) (acc := []) (by simp; omega) none none none
  have hfor : sx ⟨G.refs, G.orc (d + 2)⟩ 1 (.sfor (.nm 6) (.rng (.cst (.int 0)) (.ite (.var 5) (.bin .add (.var 1) (.call 45 [(.var 0), (.cst (.int 3))])) (.bin .add (.cst (.int 2)) (.call 45 [(.var 0), (.bin .sub (.var 1) (.cst (.int 1)))])))) [(.asg (.nm 7) (.lst [(.cst (.int 0)), (.cst (.int 0)), (.cst (.int 1)), (.cst (.int 3)), (.cst (.int 5)), (.cst (.int 8))])), (.sif (.var 5) [.asg (.nm 7) (.ite (.cmp .eq (.bin .mod (.bf .int [(.bin .add (.var 6) (.var 3))]) (.cst (.int 3))) (.cst (.int 1))) (.lst [(.cst (.int 0)), (.cst (.int 0)), (.cst (.int 1)), (.cst (.int 2))]) (.lst [(.cst (.int 6)), (.cst (.int 7)), (.cst (.int 8)), (.cst (.int 8))]))] []), (.asg (.nm 8) (.bin .add (.bin .mul (.cst (.int 2)) (.ix (.var 7) (.call 45 [(.var 0), (.bf .len [(.var 7)])]))) (.bf .int [(.cmp .eq (.call 45 [(.var 0), (.cst (.int 5))]) (.cst (.int 0)))]))), (.expr (.met .append (.var 4) [(.tup [(.tup [(.var 2), (.cst (.int 1))]), (.call 27 [(.var 8), (.cst (.int 2))])])])), (.asg (.nm 2) (.bin .add (.bin .add (.var 2) (.cst (.int 1))) (.ite (.var 5) (.bf .int [(.cmp .eq (.call 45 [(.var 0), (.cst (.int 4))]) (.cst (.int 0)))]) (.call 45 [(.var 0), (.cst (.int 3))]))))]) [some (.r 0), some (.d (.int most)), some (.d (.int (z1 - 3))), some (.d (.int turn)), some (.r 1), some (.d (.bool ic)), none, none, none] [o3, .lst []] = some (.nx [some (.r 0), some (.d (.int most)), some (.d (.int x')), some (.d (.int turn)), some (.r 1), some (.d (.bool ic)), p6, p7, p8] [o5, .lst (r.map sp)]) := by
    rw [sx_for, hm]
    exact e5
  refine ⟨r, o5, by omega, by omega, hr.up, hr.sz, s5, ?_⟩
  have h1 : sx ⟨G.refs, G.orc (d + 2)⟩ 1 (.par [2, 3, 4] [(false, (.bin .sub (.call 45 [(.var 0), (.cst (.int 7))]) (.cst (.int 3)))), (false, (.call 45 [(.var 0), (.cst (.int 3))])), (true, (.lst []))]) [some (.r 0), some (.d (.int most)), none, none, none, none, none, none, none] [o] = some (.nx [some (.r 0), some (.d (.int most)), some (.d (.int (z1 - 3))), some (.d (.int turn)), some (.r 1), none, none, none, none] [o2, .lst []]) := by
    simp [runFn, sxs_cons, sxs_nil, sx_asg, sx_asgT, sx_alloc, sx_par, sx_if, sx_retV, ret_tup, evn_tup, ret_lst, evn_lst, ret_bin, evn_bin, ret_neg, evn_neg, ret_not, evn_not, ret_cmp, evn_cmp, ret_chain, evn_chain, ret_and, evn_and, ret_or, evn_or, ret_ite, evn_ite, ret_ix, evn_ix, ret_sl, evn_sl, ret_bf, evn_bf, ret_met, evn_met, ret_comp, evn_comp, ret_cst, evn_cst, ret_call, sx_expr, sx_aug, sx_brk, sx_cnt, ev_var, ev_cst, ev_tup, ev_lst, ev_bin, ev_neg, ev_not, ev_cmp, ev_chain, ev_and, ev_or, ev_ite, ev_ix, ev_sl, ev_back, ev_call, ev_bf, ev_met, evn_call, evns, evs, evp, evt, own, setAll, callC, derefs, isRef, op1, op2, dt, vd, vb, Cr.part, intD, deref, items_list, items_tuple, Cr.ixN, ix_tup, ix_list, ix_fr0, ix_fr1, ix_sp0, ix_sp1, ix_gsp0, ix_gsp1, items_fr, items_sp, items_rg, cmp_eqF, cmp_neF, binD, tru_int, tru_bool, bd_nm, bd_tup, bds_nil, bds_cons, frz, frzV, isNew, bfD, metS, metD, isLst, cmp_eqI, cmp_neI, cmp_ltI, cmp_leI, cmp_gtI, cmp_geI, cmp_isNone, cmp_isNoneT, cmp_notNone, cmp_notNoneT, cmp_notB, cmp_isB, cmp_neB, cmp_eqB, bd_sp, bd_gsp, bd_pkd, items_gsp, rf0, rf1, rf2, rf3, rf4, rf5, rf6, rf7, rf8, rf9, rf10, rf11, rf12, rf13, rf14, rf15, rf16, rf17, rf18, rf19, rf20, rf21, rf22, rf23, rf24, rf25, rf26, rf27, rf28, rf29, rf30, rf31, rf32, rf33, rf34, rf35, rf36, rf37, rf38, rf39, rf40, rf41, rf42, rf43, rf44, rf45, hands, p1, p2, line]
  unfold runFn
  simp only [b40]
  simp only [List.length_cons, List.length_nil, List.map_cons, List.map_nil, if_true]
  show ((sxs _ 1 _ [some (.r 0), some (.d (.int most)), none, none, none, none, none, none, none] [o]).bind _) = _
  rw [sxs_cons, h1]
  simp only [Option.bind_some]
  rw [sxs_cons, hic]
  simp only [Option.bind_some]
  rw [sxs_cons, hfor]
  simp [runFn, sxs_cons, sxs_nil, sx_asg, sx_asgT, sx_alloc, sx_par, sx_if, sx_retV, ret_tup, evn_tup, ret_lst, evn_lst, ret_bin, evn_bin, ret_neg, evn_neg, ret_not, evn_not, ret_cmp, evn_cmp, ret_chain, evn_chain, ret_and, evn_and, ret_or, evn_or, ret_ite, evn_ite, ret_ix, evn_ix, ret_sl, evn_sl, ret_bf, evn_bf, ret_met, evn_met, ret_comp, evn_comp, ret_cst, evn_cst, ret_call, sx_expr, sx_aug, sx_brk, sx_cnt, ev_var, ev_cst, ev_tup, ev_lst, ev_bin, ev_neg, ev_not, ev_cmp, ev_chain, ev_and, ev_or, ev_ite, ev_ix, ev_sl, ev_back, ev_call, ev_bf, ev_met, evn_call, evns, evs, evp, evt, own, setAll, callC, derefs, isRef, op1, op2, dt, vd, vb, Cr.part, intD, deref, items_list, items_tuple, Cr.ixN, ix_tup, ix_list, ix_fr0, ix_fr1, ix_sp0, ix_sp1, ix_gsp0, ix_gsp1, items_fr, items_sp, items_rg, cmp_eqF, cmp_neF, binD, tru_int, tru_bool, bd_nm, bd_tup, bds_nil, bds_cons, frz, frzV, isNew, bfD, metS, metD, isLst, cmp_eqI, cmp_neI, cmp_ltI, cmp_leI, cmp_gtI, cmp_geI, cmp_isNone, cmp_isNoneT, cmp_notNone, cmp_notNoneT, cmp_notB, cmp_isB, cmp_neB, cmp_eqB, bd_sp, bd_gsp, bd_pkd, items_gsp, rg]
/-! ### one lap of the law -/
/-- what is drawn in one lap -/
structure Sit (r : List Pt) (h : Rat) (gs : List (Nat × Rat)) : Prop where
  l2 : 2 ≤ r.length
  l30 : r.length ≤ 30
  up : r.Pairwise fun a b => a.1 < b.1
  zr : ∀ c ∈ r, szp 8 c
  zh : sz 14 h
  above : ∀ c ∈ r, c.2 < h
  ok : ∀ g ∈ gs, GOk r 5 g
  t0 : ∀ g ∈ gs, 0 ≤ g.2
  t1 : ∀ g ∈ gs, g.2 ≤ 1
  ne : gs ≠ []
  few : gs.length ≤ 1000
theorem a_mem {r : List Pt} {k : Nat} {g : Nat × Rat} (h : GOk r k g) : r.getD g.1 (0, 0) ∈ r := List.mem_of_getElem? h.a
theorem b_mem {r : List Pt} {k : Nat} {g : Nat × Rat} (h : GOk r k g) : r.getD (g.1 + 1) (0, 0) ∈ r := List.mem_of_getElem? h.b
theorem sz_spot {r : List Pt} {g : Nat × Rat} (hg : GOk r 5 g) (zr : ∀ c ∈ r, szp 8 c) : szp 31 (spotR r g) := sz_mid (zr _ (a_mem hg)) (zr _ (b_mem hg)) hg.sz
theorem sz_reach {r : List Pt} {h : Rat} {g : Nat × Rat} (hg : GOk r 5 g) (zr : ∀ c ∈ r, szp 8 c) (zh : sz 14 h) (h0 : r ≠ []) : szp 158 (reachR r h g) := by
  have zs := sz_spot hg zr
  have f1 : sz 158 (firstX r) := by
    obtain ⟨a, ha⟩ : ∃ a, r.head? = some a := by cases r with
      | nil => exact absurd rfl h0
      | cons a r => exact ⟨a, rfl⟩
    rw [firstX_of ha]
    exact (zr a (List.mem_of_head? ha)).1.mono (by omega)
  have f2 : sz 158 (lastX r) := by
    obtain ⟨a, ha⟩ : ∃ a, r.getLast? = some a := ⟨_, List.getLast?_eq_some_getLast h0⟩
    rw [lastX_of ha]
    exact (zr a (List.mem_of_getLast? ha)).1.mono (by omega)
  constructor
  · show sz 158 (lo r h (spotR r g))
    have : lo r h (spotR r g) ∈ (firstX r :: (r.filter (leftC (spotR r g))).map fun c => plc (spotR r g) c h) := maxL_mem (by simp)
    rcases List.mem_cons.mp this with e | e
    · rw [e]; exact f1
    · obtain ⟨c, hc, e⟩ := List.mem_map.mp e
      rw [← e]
      obtain ⟨hc, hl⟩ := List.mem_filter.mp hc
      simp only [leftC, Bool.and_eq_true, decide_eq_true_eq] at hl
      exact (sz_plc zs (zr c hc) zh (by grind)).mono (by omega)
  · show sz 158 (hi r h (spotR r g))
    have : hi r h (spotR r g) ∈ (lastX r :: (r.filter (rightC (spotR r g))).map fun c => plc (spotR r g) c h) := minL_mem (by simp)
    rcases List.mem_cons.mp this with e | e
    · rw [e]; exact f2
    · obtain ⟨c, hc, e⟩ := List.mem_map.mp e
      rw [← e]
      obtain ⟨hc, hl⟩ := List.mem_filter.mp hc
      simp only [rightC, Bool.and_eq_true, decide_eq_true_eq] at hl
      exact (sz_plc zs (zr c hc) zh (by grind)).mono (by omega)
theorem first_le {r : List Pt} (up : r.Pairwise fun a b => a.1 < b.1) : ∀ c ∈ r, firstX r ≤ c.1 := by
  intro c hc
  cases r with
  | nil => cases hc
  | cons a r =>
    show a.1 ≤ c.1
    rcases List.mem_cons.mp hc with rfl | hc
    · exact Rat.le_refl
    · exact Rat.le_of_lt ((List.pairwise_cons.mp up).1 c hc)
theorem le_last {r : List Pt} (up : r.Pairwise fun a b => a.1 < b.1) : ∀ c ∈ r, c.1 ≤ lastX r := by
  intro c hc
  have h0 : r ≠ [] := by intro e; subst e; cases hc
  rw [lastX_of (List.getLast?_eq_some_getLast h0)]
  obtain ⟨i, hi, rfl⟩ := List.mem_iff_getElem.mp hc
  rw [List.getLast_eq_getElem]
  by_cases e : i = r.length - 1
  · subst e; exact Rat.le_refl
  · exact Rat.le_of_lt (List.pairwise_iff_getElem.mp up i (r.length - 1) hi (by omega) (by omega))
namespace Sit
variable {r : List Pt} {h : Rat} {gs : List (Nat × Rat)}
theorem r0 (H : Sit r h gs) : r ≠ [] := by
  intro e; have := H.l2; rw [e] at this; simp at this
theorem adj (H : Sit r h gs) {g : Nat × Rat} (hg : g ∈ gs) : (r.getD g.1 (0, 0)).1 < (r.getD (g.1 + 1) (0, 0)).1 := by
  have a := (H.ok g hg).a
  have b := (H.ok g hg).b
  obtain ⟨ia, ea⟩ := List.getElem?_eq_some_iff.mp a
  obtain ⟨ib, eb⟩ := List.getElem?_eq_some_iff.mp b
  rw [← ea, ← eb]
  exact List.pairwise_iff_getElem.mp H.up _ _ ia ib (by omega)
theorem low (H : Sit r h gs) {g : Nat × Rat} (hg : g ∈ gs) : (spotR r g).2 < h := by
  have ha := H.above _ (a_mem (H.ok g hg))
  have hb := H.above _ (b_mem (H.ok g hg))
  have t0 := H.t0 g hg
  have t1 := H.t1 g hg
  show (r.getD g.1 (0, 0)).2 + g.2 * ((r.getD (g.1 + 1) (0, 0)).2 - (r.getD g.1 (0, 0)).2) < h
  generalize (r.getD g.1 (0, 0)).2 = a at ha
  generalize (r.getD (g.1 + 1) (0, 0)).2 = b at hb
  have m1 := Rat.mul_nonneg (a := 1 - g.2) (b := h - a) (by grind) (by grind)
  by_cases e : g.2 = 0
  · rw [e]; grind
  · have m2 := Rat.mul_pos (a := g.2) (b := h - b) (by grind) (by grind)
    grind
theorem ge (H : Sit r h gs) {g : Nat × Rat} (hg : g ∈ gs) : firstX r ≤ (spotR r g).1 := by
  have ha := first_le H.up _ (a_mem (H.ok g hg))
  refine Rat.le_trans ha ?_
  have q := H.adj hg
  have m := Rat.mul_nonneg (a := g.2) (b := (r.getD (g.1 + 1) (0, 0)).1 - (r.getD g.1 (0, 0)).1) (H.t0 g hg) (by grind)
  show _ ≤ (r.getD g.1 (0, 0)).1 + g.2 * ((r.getD (g.1 + 1) (0, 0)).1 - (r.getD g.1 (0, 0)).1)
  grind
theorem le (H : Sit r h gs) {g : Nat × Rat} (hg : g ∈ gs) : (spotR r g).1 ≤ lastX r := by
  have hb := le_last H.up _ (b_mem (H.ok g hg))
  refine Rat.le_trans ?_ hb
  have q := H.adj hg
  have t1 := H.t1 g hg
  have m := Rat.mul_nonneg (a := 1 - g.2) (b := (r.getD (g.1 + 1) (0, 0)).1 - (r.getD g.1 (0, 0)).1) (by grind) (by grind)
  show (r.getD g.1 (0, 0)).1 + g.2 * ((r.getD (g.1 + 1) (0, 0)).1 - (r.getD g.1 (0, 0)).1) ≤ _
  grind
theorem sees (H : Sit r h gs) {g : Nat × Rat} (hg : g ∈ gs) {x : Rat} (fx : firstX r ≤ x) (lx : x ≤ lastX r) : seesB r h x (spotR r g) = decide ((reachR r h g).1 ≤ x ∧ x ≤ (reachR r h g).2) := by
  have := sees_reach (x := x) H.above (H.low hg) (H.ge hg) (H.le hg) fx lx
  rw [Bool.eq_iff_iff, this, decide_eq_true_iff]
  rfl
theorem own (H : Sit r h gs) {g : Nat × Rat} (hg : g ∈ gs) : (reachR r h g).1 ≤ (reachR r h g).2 := Rat.le_trans (lo_self (H.low hg) (H.ge hg)) (self_hi (H.low hg) (H.le hg))
theorem szr (H : Sit r h gs) {g : Nat × Rat} (hg : g ∈ gs) : szp 158 (reachR r h g) := sz_reach (H.ok g hg) H.zr H.zh H.r0
end Sit
end Lw

/-! ## LwB2 -/
set_option Elab.async false
set_option linter.all false
set_option autoImplicit false
set_option maxRecDepth 100000
set_option maxHeartbeats 4000000
set_option exponentiation.threshold 100000
namespace Lw
open PySem PySem.Spec Cr
/-! ### what is a fraction, a place; the ground at a place -/
theorem isTup_fr (q : Rat) : bfD .isTup [fr q] = some (.bool true) := rfl
theorem isTup_sp (p : Pt) : bfD .isTup [sp p] = some (.bool true) := rfl
theorem len_fr (q : Rat) : bfD .len [fr q] = some (.int 2) := rfl
theorem len_sp (p : Pt) : bfD .len [sp p] = some (.int 2) := rfl
theorem isInt_int (z : Int) : bfD .isInt [.int z] = some (.bool true) := rfl
theorem isBool_int (z : Int) : bfD .isBool [.int z] = some (.bool false) := rfl
theorem run_is_integer (d : Nat) (z : Int) : G.orc (d + 1) 0 [.d (.int z)] [] = some (.bool true, false, []) := by
  rw [orc_fn d pg0]
  simp [b0, runFn, sxs_cons, sxs_nil, sx_asg, sx_asgT, sx_alloc, sx_par, sx_if, sx_retV, ret_tup, evn_tup, ret_lst, evn_lst, ret_bin, evn_bin, ret_neg, evn_neg, ret_not, evn_not, ret_cmp, evn_cmp, ret_chain, evn_chain, ret_and, evn_and, ret_or, evn_or, ret_ite, evn_ite, ret_ix, evn_ix, ret_sl, evn_sl, ret_bf, evn_bf, ret_met, evn_met, ret_comp, evn_comp, ret_cst, evn_cst, ret_call, sx_expr, sx_aug, sx_brk, sx_cnt, ev_var, ev_cst, ev_tup, ev_lst, ev_bin, ev_neg, ev_not, ev_cmp, ev_chain, ev_and, ev_or, ev_ite, ev_ix, ev_sl, ev_back, ev_call, ev_bf, ev_met, evn_call, evns, evs, evp, evt, own, setAll, callC, derefs, isRef, op1, op2, dt, vd, vb, Cr.part, intD, deref, items_list, items_tuple, Cr.ixN, ix_tup, ix_list, ix_fr0, ix_fr1, ix_sp0, ix_sp1, ix_gsp0, ix_gsp1, items_fr, items_sp, items_rg, cmp_eqF, cmp_neF, binD, tru_int, tru_bool, bd_nm, bd_tup, bds_nil, bds_cons, frz, frzV, isNew, bfD, metS, metD, isLst, cmp_eqI, cmp_neI, cmp_ltI, cmp_leI, cmp_gtI, cmp_geI, cmp_isNone, cmp_isNoneT, cmp_notNone, cmp_notNoneT, cmp_notB, cmp_isB, cmp_neB, cmp_eqB, bd_sp, bd_gsp, bd_pkd, items_gsp, rf0, rf1, rf2, rf3, rf4, rf5, rf6, rf7, rf8, rf9, rf10, rf11, rf12, rf13, rf14, rf15, rf16, rf17, rf18, rf19, rf20, rf21, rf22, rf23, rf24, rf25, rf26, rf27, rf28, rf29, rf30, rf31, rf32, rf33, rf34, rf35, rf36, rf37, rf38, rf39, rf40, rf41, rf42, rf43, rf44, rf45]
theorem run_is_fraction (d : Nat) (q : Rat) : G.orc (d + 2) 2 [.d (fr q)] [] = some (.bool true, false, []) := by
  rw [orc_fn (d + 1) pg2]
  have f := run_is_integer d
  have f2 := run_common d q.num q.den
  have e : Int.gcd q.num (q.den : Int) = 1 := by
    have := q.reduced
    unfold Nat.Coprime at this
    rw [← this]
    rfl
  have p : (1 : Int) ≤ (q.den : Int) := by have := q.den_pos; omega
  rw [e] at f2
  simp [b2, runFn, sxs_cons, sxs_nil, sx_asg, sx_asgT, sx_alloc, sx_par, sx_if, sx_retV, ret_tup, evn_tup, ret_lst, evn_lst, ret_bin, evn_bin, ret_neg, evn_neg, ret_not, evn_not, ret_cmp, evn_cmp, ret_chain, evn_chain, ret_and, evn_and, ret_or, evn_or, ret_ite, evn_ite, ret_ix, evn_ix, ret_sl, evn_sl, ret_bf, evn_bf, ret_met, evn_met, ret_comp, evn_comp, ret_cst, evn_cst, ret_call, sx_expr, sx_aug, sx_brk, sx_cnt, ev_var, ev_cst, ev_tup, ev_lst, ev_bin, ev_neg, ev_not, ev_cmp, ev_chain, ev_and, ev_or, ev_ite, ev_ix, ev_sl, ev_back, ev_call, ev_bf, ev_met, evn_call, evns, evs, evp, evt, own, setAll, callC, derefs, isRef, op1, op2, dt, vd, vb, Cr.part, intD, deref, items_list, items_tuple, Cr.ixN, ix_tup, ix_list, ix_fr0, ix_fr1, ix_sp0, ix_sp1, ix_gsp0, ix_gsp1, items_fr, items_sp, items_rg, cmp_eqF, cmp_neF, binD, tru_int, tru_bool, bd_nm, bd_tup, bds_nil, bds_cons, frz, frzV, isNew, bfD, metS, metD, isLst, cmp_eqI, cmp_neI, cmp_ltI, cmp_leI, cmp_gtI, cmp_geI, cmp_isNone, cmp_isNoneT, cmp_notNone, cmp_notNoneT, cmp_notB, cmp_isB, cmp_neB, cmp_eqB, bd_sp, bd_gsp, bd_pkd, items_gsp, -bfD, rf0, rf1, rf2, rf3, rf4, rf5, rf6, rf7, rf8, rf9, rf10, rf11, rf12, rf13, rf14, rf15, rf16, rf17, rf18, rf19, rf20, rf21, rf22, rf23, rf24, rf25, rf26, rf27, rf28, rf29, rf30, rf31, rf32, rf33, rf34, rf35, rf36, rf37, rf38, rf39, rf40, rf41, rf42, rf43, rf44, rf45, isTup_fr, len_fr, f, f2, p]
theorem sgn_ge (x a : Rat) : (0 : Int) ≤ (if x = a then 0 else if a < x then 1 else -1) ↔ a ≤ x := by
  by_cases c : x = a
  · subst c; simp [Rat.le_refl]
  · by_cases c2 : a < x
    · simp [c, c2, Rat.le_of_lt c2]
    · have : ¬ a ≤ x := by grind
      simp [c, c2, this]
theorem sgn_le (x a : Rat) : (if x = a then (0 : Int) else if a < x then 1 else -1) ≤ 0 ↔ x ≤ a := by
  by_cases c : x = a
  · subst c; simp [Rat.le_refl]
  · by_cases c2 : a < x
    · have : ¬ x ≤ a := by grind
      simp [c, c2, this]
    · have : x ≤ a := by grind
      simp [c, c2, this]
theorem run_is_within (d : Nat) {n m k : Nat} {x a b : Rat} (zx : sz n x) (za : sz m a) (zb : sz k b) (hn : n ≤ 8192) (hm : m ≤ 8192) (hk : k ≤ 8192) : G.orc (d + 3) 15 [.d (fr x), .d (fr a), .d (fr b)] [] = some (.bool (decide (a ≤ x) && decide (x ≤ b)), false, []) := by
  rw [orc_fn (d + 2) pg15]
  have f1 := run_is_fraction d x
  have f2 := run_compared (d + 1) zx za hn hm
  have f3 := run_compared (d + 1) zx zb hn hk
  have g1 := sgn_ge x a
  have g2 := sgn_le x b
  generalize (if x = a then (0 : Int) else if a < x then 1 else -1) = s1 at *
  generalize (if x = b then (0 : Int) else if b < x then 1 else -1) = s2 at *
  by_cases c1 : a ≤ x
  · have d1 := g1.mpr c1
    simp [b15, runFn, sxs_cons, sxs_nil, sx_asg, sx_asgT, sx_alloc, sx_par, sx_if, sx_retV, ret_tup, evn_tup, ret_lst, evn_lst, ret_bin, evn_bin, ret_neg, evn_neg, ret_not, evn_not, ret_cmp, evn_cmp, ret_chain, evn_chain, ret_and, evn_and, ret_or, evn_or, ret_ite, evn_ite, ret_ix, evn_ix, ret_sl, evn_sl, ret_bf, evn_bf, ret_met, evn_met, ret_comp, evn_comp, ret_cst, evn_cst, ret_call, sx_expr, sx_aug, sx_brk, sx_cnt, ev_var, ev_cst, ev_tup, ev_lst, ev_bin, ev_neg, ev_not, ev_cmp, ev_chain, ev_and, ev_or, ev_ite, ev_ix, ev_sl, ev_back, ev_call, ev_bf, ev_met, evn_call, evns, evs, evp, evt, own, setAll, callC, derefs, isRef, op1, op2, dt, vd, vb, Cr.part, intD, deref, items_list, items_tuple, Cr.ixN, ix_tup, ix_list, ix_fr0, ix_fr1, ix_sp0, ix_sp1, ix_gsp0, ix_gsp1, items_fr, items_sp, items_rg, cmp_eqF, cmp_neF, binD, tru_int, tru_bool, bd_nm, bd_tup, bds_nil, bds_cons, frz, frzV, isNew, bfD, metS, metD, isLst, cmp_eqI, cmp_neI, cmp_ltI, cmp_leI, cmp_gtI, cmp_geI, cmp_isNone, cmp_isNoneT, cmp_notNone, cmp_notNoneT, cmp_notB, cmp_isB, cmp_neB, cmp_eqB, bd_sp, bd_gsp, bd_pkd, items_gsp, rf0, rf1, rf2, rf3, rf4, rf5, rf6, rf7, rf8, rf9, rf10, rf11, rf12, rf13, rf14, rf15, rf16, rf17, rf18, rf19, rf20, rf21, rf22, rf23, rf24, rf25, rf26, rf27, rf28, rf29, rf30, rf31, rf32, rf33, rf34, rf35, rf36, rf37, rf38, rf39, rf40, rf41, rf42, rf43, rf44, rf45, f1, f2, f3, d1, c1, g2]
  · have d1 : ¬ 0 ≤ s1 := fun h => c1 (g1.mp h)
    simp [b15, runFn, sxs_cons, sxs_nil, sx_asg, sx_asgT, sx_alloc, sx_par, sx_if, sx_retV, ret_tup, evn_tup, ret_lst, evn_lst, ret_bin, evn_bin, ret_neg, evn_neg, ret_not, evn_not, ret_cmp, evn_cmp, ret_chain, evn_chain, ret_and, evn_and, ret_or, evn_or, ret_ite, evn_ite, ret_ix, evn_ix, ret_sl, evn_sl, ret_bf, evn_bf, ret_met, evn_met, ret_comp, evn_comp, ret_cst, evn_cst, ret_call, sx_expr, sx_aug, sx_brk, sx_cnt, ev_var, ev_cst, ev_tup, ev_lst, ev_bin, ev_neg, ev_not, ev_cmp, ev_chain, ev_and, ev_or, ev_ite, ev_ix, ev_sl, ev_back, ev_call, ev_bf, ev_met, evn_call, evns, evs, evp, evt, own, setAll, callC, derefs, isRef, op1, op2, dt, vd, vb, Cr.part, intD, deref, items_list, items_tuple, Cr.ixN, ix_tup, ix_list, ix_fr0, ix_fr1, ix_sp0, ix_sp1, ix_gsp0, ix_gsp1, items_fr, items_sp, items_rg, cmp_eqF, cmp_neF, binD, tru_int, tru_bool, bd_nm, bd_tup, bds_nil, bds_cons, frz, frzV, isNew, bfD, metS, metD, isLst, cmp_eqI, cmp_neI, cmp_ltI, cmp_leI, cmp_gtI, cmp_geI, cmp_isNone, cmp_isNoneT, cmp_notNone, cmp_notNoneT, cmp_notB, cmp_isB, cmp_neB, cmp_eqB, bd_sp, bd_gsp, bd_pkd, items_gsp, rf0, rf1, rf2, rf3, rf4, rf5, rf6, rf7, rf8, rf9, rf10, rf11, rf12, rf13, rf14, rf15, rf16, rf17, rf18, rf19, rf20, rf21, rf22, rf23, rf24, rf25, rf26, rf27, rf28, rf29, rf30, rf31, rf32, rf33, rf34, rf35, rf36, rf37, rf38, rf39, rf40, rf41, rf42, rf43, rf44, rf45, f1, f2, f3, d1, c1]
theorem run_is_place (d : Nat) {n m : Nat} {r : List Pt} {x : Rat} {u v : Pt} (hu : r.head? = some u) (hv : r.getLast? = some v) (zu : szp n u) (zv : szp n v) (zx : sz m x) (hn : n ≤ 8192) (hm : m ≤ 8192) : G.orc (d + 4) 18 [.d (rg r), .d (fr x)] [] = some (.bool (decide (u.1 ≤ x) && decide (x ≤ v.1)), false, []) := by
  rw [orc_fn (d + 3) pg18]
  have f := run_is_within d zx zu.1 zv.1 hm hn hn
  have i1 := rg_head hu
  have i2 := rg_last hv
  simp [b18, runFn, sxs_cons, sxs_nil, sx_asg, sx_asgT, sx_alloc, sx_par, sx_if, sx_retV, ret_tup, evn_tup, ret_lst, evn_lst, ret_bin, evn_bin, ret_neg, evn_neg, ret_not, evn_not, ret_cmp, evn_cmp, ret_chain, evn_chain, ret_and, evn_and, ret_or, evn_or, ret_ite, evn_ite, ret_ix, evn_ix, ret_sl, evn_sl, ret_bf, evn_bf, ret_met, evn_met, ret_comp, evn_comp, ret_cst, evn_cst, ret_call, sx_expr, sx_aug, sx_brk, sx_cnt, ev_var, ev_cst, ev_tup, ev_lst, ev_bin, ev_neg, ev_not, ev_cmp, ev_chain, ev_and, ev_or, ev_ite, ev_ix, ev_sl, ev_back, ev_call, ev_bf, ev_met, evn_call, evns, evs, evp, evt, own, setAll, callC, derefs, isRef, op1, op2, dt, vd, vb, Cr.part, intD, deref, items_list, items_tuple, Cr.ixN, ix_tup, ix_list, ix_fr0, ix_fr1, ix_sp0, ix_sp1, ix_gsp0, ix_gsp1, items_fr, items_sp, items_rg, cmp_eqF, cmp_neF, binD, tru_int, tru_bool, bd_nm, bd_tup, bds_nil, bds_cons, frz, frzV, isNew, bfD, metS, metD, isLst, cmp_eqI, cmp_neI, cmp_ltI, cmp_leI, cmp_gtI, cmp_geI, cmp_isNone, cmp_isNoneT, cmp_notNone, cmp_notNoneT, cmp_notB, cmp_isB, cmp_neB, cmp_eqB, bd_sp, bd_gsp, bd_pkd, items_gsp, rf0, rf1, rf2, rf3, rf4, rf5, rf6, rf7, rf8, rf9, rf10, rf11, rf12, rf13, rf14, rf15, rf16, rf17, rf18, rf19, rf20, rf21, rf22, rf23, rf24, rf25, rf26, rf27, rf28, rf29, rf30, rf31, rf32, rf33, rf34, rf35, rf36, rf37, rf38, rf39, rf40, rf41, rf42, rf43, rf44, rf45, i1, i2, f]
end Lw

/-! ## LwB3 -/
set_option Elab.async false
set_option linter.all false
set_option autoImplicit false
set_option maxRecDepth 100000
set_option maxHeartbeats 4000000
set_option exponentiation.threshold 100000
namespace Lw
open PySem PySem.Spec Cr
/-! ### unlike fractions, ascending -/
theorem nl_fr (q : Rat) : nl (fr q) = true := rfl
theorem minL_lt {zs : List Rat} (h0 : zs ≠ []) (nd : zs.Nodup) : ∀ y ∈ zs.erase (minL zs), minL zs < y := by
  intro y hy
  have h1 : y ∈ zs := List.mem_of_mem_erase hy
  have h2 : y ≠ minL zs := fun e => by
    rw [e] at hy
    exact (List.Nodup.not_mem_erase nd) hy
  have h3 := minL_le h1
  grind
theorem while_sorted (d : Nat) {n : Nat} {D : PyData} (hn : n ≤ 8192) : ∀ (k : Nat) (zs acc : List Rat) (o4 : Option PV), zs.length = k → zs.Nodup → (∀ z ∈ zs, sz n z) → acc.length + zs.length ≤ 1000 →
    ∃ (ys : List Rat) (p4 : Option PV), ys.Pairwise (fun a b => a < b) ∧ (∀ y, y ∈ ys ↔ y ∈ zs) ∧ ys.length = zs.length ∧ sx ⟨G.refs, G.orc (d + 2)⟩ 0 (.swhile (.cmp .ne (.var 2) (.lst [])) [.asg (.nm 4) (.call 33 [(.var 2)]), .expr (.met .append (.var 1) [(.var 4)]), .expr (.met .remove (.var 2) [(.var 4)])])
      [some (.d D), some (.r 0), some (.r 1), none, o4] [.lst (acc.map fr), .lst (zs.map fr)] = some (.nx [some (.d D), some (.r 0), some (.r 1), none, p4] [.lst ((acc ++ ys).map fr), .lst []]) := by
  intro k
  induction k with
  | zero =>
    intro zs acc o4 hk nd zz hl
    have e : zs = [] := List.eq_nil_of_length_eq_zero hk
    subst e
    refine ⟨[], o4, List.Pairwise.nil, fun y => Iff.rfl, rfl, ?_⟩
    have c := cmp_ne_nilF []
    simp only [List.map_nil] at c
    rw [sx_while]
    simp [runFn, sxs_cons, sxs_nil, sx_asg, sx_asgT, sx_alloc, sx_par, sx_if, sx_retV, ret_tup, evn_tup, ret_lst, evn_lst, ret_bin, evn_bin, ret_neg, evn_neg, ret_not, evn_not, ret_cmp, evn_cmp, ret_chain, evn_chain, ret_and, evn_and, ret_or, evn_or, ret_ite, evn_ite, ret_ix, evn_ix, ret_sl, evn_sl, ret_bf, evn_bf, ret_met, evn_met, ret_comp, evn_comp, ret_cst, evn_cst, ret_call, sx_expr, sx_aug, sx_brk, sx_cnt, ev_var, ev_cst, ev_tup, ev_lst, ev_bin, ev_neg, ev_not, ev_cmp, ev_chain, ev_and, ev_or, ev_ite, ev_ix, ev_sl, ev_back, ev_call, ev_bf, ev_met, evn_call, evns, evs, evp, evt, own, setAll, callC, derefs, isRef, op1, op2, dt, vd, vb, Cr.part, intD, deref, items_list, items_tuple, Cr.ixN, ix_tup, ix_list, ix_fr0, ix_fr1, ix_sp0, ix_sp1, ix_gsp0, ix_gsp1, items_fr, items_sp, items_rg, cmp_eqF, cmp_neF, binD, tru_int, tru_bool, bd_nm, bd_tup, bds_nil, bds_cons, frz, frzV, isNew, bfD, metS, metD, isLst, cmp_eqI, cmp_neI, cmp_ltI, cmp_leI, cmp_gtI, cmp_geI, cmp_isNone, cmp_isNoneT, cmp_notNone, cmp_notNoneT, cmp_notB, cmp_isB, cmp_neB, cmp_eqB, bd_sp, bd_gsp, bd_pkd, items_gsp, c, line]
  | succ k ih =>
    intro zs acc o4 hk nd zz hl
    have h0 : zs ≠ [] := by intro e; rw [e] at hk; simp at hk
    have hm := minL_mem h0
    have zm := zz _ hm
    have le : (zs.erase (minL zs)).length = k := by rw [List.length_erase_of_mem hm, hk]; rfl
    obtain ⟨ys, p4, q1, q2, q3, e⟩ := ih (zs.erase (minL zs)) (acc ++ [minL zs]) (some (.d (fr (minL zs)))) le (nd.erase _) (fun z hz => zz z (List.mem_of_mem_erase hz)) (by rw [le]; simp; omega)
    refine ⟨minL zs :: ys, p4, List.pairwise_cons.mpr ⟨fun y hy => minL_lt h0 nd y ((q2 y).mp hy), q1⟩, fun y => ?_, by rw [List.length_cons, q3, le, hk], ?_⟩
    · rw [List.mem_cons, q2]
      constructor
      · rintro (rfl | h)
        · exact hm
        · exact List.mem_of_mem_erase h
      · intro h
        by_cases c : y = minL zs
        · exact .inl c
        · exact .inr ((List.mem_erase_of_ne c).mpr h)
    · obtain ⟨w, ws, ew⟩ : ∃ w ws, zs = w :: ws := by
        cases zs with
        | nil => exact absurd rfl h0
        | cons w ws => exact ⟨w, ws, rfl⟩
      have f := run_law_least d (n := n) (D := .list (zs.map fr)) (x := w) (xs := ws) (by rw [ew]; rfl) (by rw [← ew]; exact zz) hn
      rw [← ew] at f
      have c := cmp_ne_nilF zs
      rw [decide_eq_false h0] at c
      have mr := met_rem hm
      have hL : (acc.map fr).length < 16777216 := by rw [List.length_map]; omega
      have ea : (acc ++ [minL zs]).map fr = acc.map fr ++ [fr (minL zs)] := by rw [List.map_append]; rfl
      have eb : acc ++ minL zs :: ys = acc ++ [minL zs] ++ ys := by simp
      rw [ea] at e
      rw [eb, sx_while]
      clear ih ea eb ew
      generalize ((acc ++ [minL zs] ++ ys).map fr) = E at *
      generalize (zs.erase (minL zs)).map fr = Z1 at *
      generalize zs.map fr = Z at *
      generalize acc.map fr = A at *
      generalize minL zs = m at *
      have t0 : op1 (ev ⟨G.refs, G.orc (d + 2)⟩ (.cmp .ne (.var 2) (.lst [])) [some (.d D), some (.r 0), some (.r 1), none, o4] [.lst A, .lst Z]) truD = some (true, [.lst A, .lst Z]) := by
        simp [runFn, sxs_cons, sxs_nil, sx_asg, sx_asgT, sx_alloc, sx_par, sx_if, sx_retV, ret_tup, evn_tup, ret_lst, evn_lst, ret_bin, evn_bin, ret_neg, evn_neg, ret_not, evn_not, ret_cmp, evn_cmp, ret_chain, evn_chain, ret_and, evn_and, ret_or, evn_or, ret_ite, evn_ite, ret_ix, evn_ix, ret_sl, evn_sl, ret_bf, evn_bf, ret_met, evn_met, ret_comp, evn_comp, ret_cst, evn_cst, ret_call, sx_expr, sx_aug, sx_brk, sx_cnt, ev_var, ev_cst, ev_tup, ev_lst, ev_bin, ev_neg, ev_not, ev_cmp, ev_chain, ev_and, ev_or, ev_ite, ev_ix, ev_sl, ev_back, ev_call, ev_bf, ev_met, evn_call, evns, evs, evp, evt, own, setAll, callC, derefs, isRef, op1, op2, dt, vd, vb, Cr.part, intD, deref, items_list, items_tuple, Cr.ixN, ix_tup, ix_list, ix_fr0, ix_fr1, ix_sp0, ix_sp1, ix_gsp0, ix_gsp1, items_fr, items_sp, items_rg, cmp_eqF, cmp_neF, binD, tru_int, tru_bool, bd_nm, bd_tup, bds_nil, bds_cons, frz, frzV, isNew, bfD, metS, metD, isLst, cmp_eqI, cmp_neI, cmp_ltI, cmp_leI, cmp_gtI, cmp_geI, cmp_isNone, cmp_isNoneT, cmp_notNone, cmp_notNoneT, cmp_notB, cmp_isB, cmp_neB, cmp_eqB, bd_sp, bd_gsp, bd_pkd, items_gsp, c, line]
      have t1 : sxs ⟨G.refs, G.orc (d + 2)⟩ 0 [.asg (.nm 4) (.call 33 [(.var 2)]), .expr (.met .append (.var 1) [(.var 4)]), .expr (.met .remove (.var 2) [(.var 4)])] [some (.d D), some (.r 0), some (.r 1), none, o4] [.lst A, .lst Z] = some (.nx [some (.d D), some (.r 0), some (.r 1), none, some (.d (fr m))] [.lst (A ++ [fr m]), .lst Z1]) := by
        have t2 : sx ⟨G.refs, G.orc (d + 2)⟩ 0 (.asg (.nm 4) (.call 33 [(.var 2)])) [some (.d D), some (.r 0), some (.r 1), none, o4] [.lst A, .lst Z] = some (.nx [some (.d D), some (.r 0), some (.r 1), none, some (.d (fr m))] [.lst A, .lst Z]) := by
          simp [runFn, sxs_cons, sxs_nil, sx_asg, sx_asgT, sx_alloc, sx_par, sx_if, sx_retV, ret_tup, evn_tup, ret_lst, evn_lst, ret_bin, evn_bin, ret_neg, evn_neg, ret_not, evn_not, ret_cmp, evn_cmp, ret_chain, evn_chain, ret_and, evn_and, ret_or, evn_or, ret_ite, evn_ite, ret_ix, evn_ix, ret_sl, evn_sl, ret_bf, evn_bf, ret_met, evn_met, ret_comp, evn_comp, ret_cst, evn_cst, ret_call, sx_expr, sx_aug, sx_brk, sx_cnt, ev_var, ev_cst, ev_tup, ev_lst, ev_bin, ev_neg, ev_not, ev_cmp, ev_chain, ev_and, ev_or, ev_ite, ev_ix, ev_sl, ev_back, ev_call, ev_bf, ev_met, evn_call, evns, evs, evp, evt, own, setAll, callC, derefs, isRef, op1, op2, dt, vd, vb, Cr.part, intD, deref, items_list, items_tuple, Cr.ixN, ix_tup, ix_list, ix_fr0, ix_fr1, ix_sp0, ix_sp1, ix_gsp0, ix_gsp1, items_fr, items_sp, items_rg, cmp_eqF, cmp_neF, binD, tru_int, tru_bool, bd_nm, bd_tup, bds_nil, bds_cons, frz, frzV, isNew, bfD, metS, metD, isLst, cmp_eqI, cmp_neI, cmp_ltI, cmp_leI, cmp_gtI, cmp_geI, cmp_isNone, cmp_isNoneT, cmp_notNone, cmp_notNoneT, cmp_notB, cmp_isB, cmp_neB, cmp_eqB, bd_sp, bd_gsp, bd_pkd, items_gsp, rf0, rf1, rf2, rf3, rf4, rf5, rf6, rf7, rf8, rf9, rf10, rf11, rf12, rf13, rf14, rf15, rf16, rf17, rf18, rf19, rf20, rf21, rf22, rf23, rf24, rf25, rf26, rf27, rf28, rf29, rf30, rf31, rf32, rf33, rf34, rf35, rf36, rf37, rf38, rf39, rf40, rf41, rf42, rf43, rf44, rf45, f, nl_fr]
        have t3 : sx ⟨G.refs, G.orc (d + 2)⟩ 0 (.expr (.met .append (.var 1) [(.var 4)])) [some (.d D), some (.r 0), some (.r 1), none, some (.d (fr m))] [.lst A, .lst Z] = some (.nx [some (.d D), some (.r 0), some (.r 1), none, some (.d (fr m))] [.lst (A ++ [fr m]), .lst Z]) := by
          simp [runFn, sxs_cons, sxs_nil, sx_asg, sx_asgT, sx_alloc, sx_par, sx_if, sx_retV, ret_tup, evn_tup, ret_lst, evn_lst, ret_bin, evn_bin, ret_neg, evn_neg, ret_not, evn_not, ret_cmp, evn_cmp, ret_chain, evn_chain, ret_and, evn_and, ret_or, evn_or, ret_ite, evn_ite, ret_ix, evn_ix, ret_sl, evn_sl, ret_bf, evn_bf, ret_met, evn_met, ret_comp, evn_comp, ret_cst, evn_cst, ret_call, sx_expr, sx_aug, sx_brk, sx_cnt, ev_var, ev_cst, ev_tup, ev_lst, ev_bin, ev_neg, ev_not, ev_cmp, ev_chain, ev_and, ev_or, ev_ite, ev_ix, ev_sl, ev_back, ev_call, ev_bf, ev_met, evn_call, evns, evs, evp, evt, own, setAll, callC, derefs, isRef, op1, op2, dt, vd, vb, Cr.part, intD, deref, items_list, items_tuple, Cr.ixN, ix_tup, ix_list, ix_fr0, ix_fr1, ix_sp0, ix_sp1, ix_gsp0, ix_gsp1, items_fr, items_sp, items_rg, cmp_eqF, cmp_neF, binD, tru_int, tru_bool, bd_nm, bd_tup, bds_nil, bds_cons, frz, frzV, isNew, bfD, metS, metD, isLst, cmp_eqI, cmp_neI, cmp_ltI, cmp_leI, cmp_gtI, cmp_geI, cmp_isNone, cmp_isNoneT, cmp_notNone, cmp_notNoneT, cmp_notB, cmp_isB, cmp_neB, cmp_eqB, bd_sp, bd_gsp, bd_pkd, items_gsp, rf0, rf1, rf2, rf3, rf4, rf5, rf6, rf7, rf8, rf9, rf10, rf11, rf12, rf13, rf14, rf15, rf16, rf17, rf18, rf19, rf20, rf21, rf22, rf23, rf24, rf25, rf26, rf27, rf28, rf29, rf30, rf31, rf32, rf33, rf34, rf35, rf36, rf37, rf38, rf39, rf40, rf41, rf42, rf43, rf44, rf45, hL, line]
        have t4 : sx ⟨G.refs, G.orc (d + 2)⟩ 0 (.expr (.met .remove (.var 2) [(.var 4)])) [some (.d D), some (.r 0), some (.r 1), none, some (.d (fr m))] [.lst (A ++ [fr m]), .lst Z] = some (.nx [some (.d D), some (.r 0), some (.r 1), none, some (.d (fr m))] [.lst (A ++ [fr m]), .lst Z1]) := by
          simp [sx_expr, ev_met, ev_var, isLst, evs, dt, metS, mr]
        rw [sxs_cons, t2]
        simp only [Option.bind_some]
        rw [sxs_cons, t3]
        simp only [Option.bind_some]
        rw [sxs_cons, t4]
        simp only [Option.bind_some]
        rw [sxs_nil]
      rw [t0]
      simp only [Option.bind_some, if_true]
      rw [t1]
      simp only [Option.bind_some]
      exact e
theorem run_law_sorted (d : Nat) {n : Nat} {xs : List Rat} (zx : ∀ x ∈ xs, sz n x) (hn : n ≤ 8192) (hl : xs.length ≤ 1000) : ∃ ys : List Rat, ys.Pairwise (fun a b => a < b) ∧ (∀ y, y ∈ ys ↔ y ∈ xs) ∧ ys.length ≤ xs.length ∧ G.orc (d + 3) 35 [.d (.list (xs.map fr))] [] = some (.list (ys.map fr), true, []) := by
  rw [orc_fn (d + 2) pg35]
  have le : (onceR [] xs).length ≤ xs.length := by simpa using once_len xs []
  obtain ⟨ys, p4, q1, q2, q3, e⟩ := while_sorted d (D := .list (xs.map fr)) hn _ (onceR [] xs) [] none rfl (once_nodup xs [] List.nodup_nil) (fun z hz => by
    rcases (once_mem xs [] z).mp hz with h | h
    · nomatch h
    · exact zx z h) (by simp; omega)
  refine ⟨ys, q1, fun y => ?_, by omega, ?_⟩
  · rw [q2, once_mem]
    simp
  · have c0 : ∀ (o : Option PV) (o2 : Option PV) (S : Store), ev ⟨G.refs, G.orc (d + 2)⟩ (.comp [3] (.nm 3) (.var 0) [] (.tup [(.var 3), (.cst (.int 0))])) [some (.d (.list (xs.map fr))), none, none, o, o2] S = some (.d (.list (xs.map fun x => .tuple [fr x, .int 0])), S) := by
      intro o o2 S
      have he : evi ⟨G.refs, G.orc (d + 2)⟩ (.var 0) [some (.d (.list (xs.map fr))), none, none, o, o2] S = some ((xs.map fr, still (.d (.list (xs.map fr))) (xs.map fr)), S) := by
        simp [evi, itV, ev_var, deref, items_list]
      rw [← flatMap_one (h := fun x => PyData.tuple [fr x, .int 0])]
      refine comp_map he trivial ?_ fun x _ => ?_
      · rw [flatMap_one, List.length_map]
        show xs.length ≤ 16777216
        omega
      · simp [turnC, eltC, wipeE, bd_nm, evt, ev_tup, evs, ev_var, ev_cst, dt, line]
    have bk := bf_keys xs
    have t1 : sx ⟨G.refs, G.orc (d + 2)⟩ 0 (.par [1, 2] [(true, (.lst [])), (true, (.bf .keys [(.comp [3] (.nm 3) (.var 0) [] (.tup [(.var 3), (.cst (.int 0))]))]))]) [some (.d (.list (xs.map fr))), none, none, none, none] [] = some (.nx [some (.d (.list (xs.map fr))), some (.r 0), some (.r 1), none, none] [.lst [], .lst ((onceR [] xs).map fr)]) := by
      generalize (onceR [] xs).map fr = Z at *
      generalize (xs.map fun x => PyData.tuple [fr x, .int 0]) = Y at *
      generalize xs.map fr = X at *
      simp [runFn, sxs_cons, sxs_nil, sx_asg, sx_asgT, sx_alloc, sx_par, sx_if, sx_retV, ret_tup, evn_tup, ret_lst, evn_lst, ret_bin, evn_bin, ret_neg, evn_neg, ret_not, evn_not, ret_cmp, evn_cmp, ret_chain, evn_chain, ret_and, evn_and, ret_or, evn_or, ret_ite, evn_ite, ret_ix, evn_ix, ret_sl, evn_sl, ret_bf, evn_bf, ret_met, evn_met, ret_comp, evn_comp, ret_cst, evn_cst, ret_call, sx_expr, sx_aug, sx_brk, sx_cnt, ev_var, ev_cst, ev_tup, ev_lst, ev_bin, ev_neg, ev_not, ev_cmp, ev_chain, ev_and, ev_or, ev_ite, ev_ix, ev_sl, ev_back, ev_call, ev_bf, ev_met, evn_call, evns, evs, evp, evt, own, setAll, callC, derefs, isRef, op1, op2, dt, vd, vb, Cr.part, intD, deref, items_list, items_tuple, Cr.ixN, ix_tup, ix_list, ix_fr0, ix_fr1, ix_sp0, ix_sp1, ix_gsp0, ix_gsp1, items_fr, items_sp, items_rg, cmp_eqF, cmp_neF, binD, tru_int, tru_bool, bd_nm, bd_tup, bds_nil, bds_cons, frz, frzV, isNew, bfD, metS, metD, isLst, cmp_eqI, cmp_neI, cmp_ltI, cmp_leI, cmp_gtI, cmp_geI, cmp_isNone, cmp_isNoneT, cmp_notNone, cmp_notNoneT, cmp_notB, cmp_isB, cmp_neB, cmp_eqB, bd_sp, bd_gsp, bd_pkd, items_gsp, -bfD, rf0, rf1, rf2, rf3, rf4, rf5, rf6, rf7, rf8, rf9, rf10, rf11, rf12, rf13, rf14, rf15, rf16, rf17, rf18, rf19, rf20, rf21, rf22, rf23, rf24, rf25, rf26, rf27, rf28, rf29, rf30, rf31, rf32, rf33, rf34, rf35, rf36, rf37, rf38, rf39, rf40, rf41, rf42, rf43, rf44, rf45, c0, bk, line]
    unfold runFn
    simp only [b35]
    simp only [List.length_cons, List.length_nil, List.map_cons, List.map_nil, if_true]
    show ((sxs _ 0 _ [some (.d (.list (xs.map fr))), none, none, none, none] []).bind _) = _
    rw [sxs_cons, t1]
    simp only [Option.bind_some]
    rw [sxs_cons]
    have e : sx ⟨G.refs, G.orc (d + 2)⟩ 0 (.swhile (.cmp .ne (.var 2) (.lst [])) [.asg (.nm 4) (.call 33 [(.var 2)]), .expr (.met .append (.var 1) [(.var 4)]), .expr (.met .remove (.var 2) [(.var 4)])])
      [some (.d (.list (xs.map fr))), some (.r 0), some (.r 1), none, none] [.lst [], .lst ((onceR [] xs).map fr)] = some (.nx [some (.d (.list (xs.map fr))), some (.r 0), some (.r 1), none, p4] [.lst (ys.map fr), .lst []]) := e
    rw [e]
    simp [runFn, sxs_cons, sxs_nil, sx_asg, sx_asgT, sx_alloc, sx_par, sx_if, sx_retV, ret_tup, evn_tup, ret_lst, evn_lst, ret_bin, evn_bin, ret_neg, evn_neg, ret_not, evn_not, ret_cmp, evn_cmp, ret_chain, evn_chain, ret_and, evn_and, ret_or, evn_or, ret_ite, evn_ite, ret_ix, evn_ix, ret_sl, evn_sl, ret_bf, evn_bf, ret_met, evn_met, ret_comp, evn_comp, ret_cst, evn_cst, ret_call, sx_expr, sx_aug, sx_brk, sx_cnt, ev_var, ev_cst, ev_tup, ev_lst, ev_bin, ev_neg, ev_not, ev_cmp, ev_chain, ev_and, ev_or, ev_ite, ev_ix, ev_sl, ev_back, ev_call, ev_bf, ev_met, evn_call, evns, evs, evp, evt, own, setAll, callC, derefs, isRef, op1, op2, dt, vd, vb, Cr.part, intD, deref, items_list, items_tuple, Cr.ixN, ix_tup, ix_list, ix_fr0, ix_fr1, ix_sp0, ix_sp1, ix_gsp0, ix_gsp1, items_fr, items_sp, items_rg, cmp_eqF, cmp_neF, binD, tru_int, tru_bool, bd_nm, bd_tup, bds_nil, bds_cons, frz, frzV, isNew, bfD, metS, metD, isLst, cmp_eqI, cmp_neI, cmp_ltI, cmp_leI, cmp_gtI, cmp_geI, cmp_isNone, cmp_isNoneT, cmp_notNone, cmp_notNoneT, cmp_notB, cmp_isB, cmp_neB, cmp_eqB, bd_sp, bd_gsp, bd_pkd, items_gsp]
/-! ### what is drawn -/
theorem run_ground (d : Nat) {o : Cr.PO} (ho : IsSrc o) {r : List Pt} (h2 : 2 ≤ r.length) (h3 : r.length ≤ 1000) : ∃ (g : Nat × Rat) (o' : Cr.PO), GOk r 5 g ∧ 0 ≤ g.2 ∧ g.2 ≤ 1 ∧ IsSrc o' ∧ G.orc (d + 4) 43 [.r 0, .d (rg r)] [o] = some (gsp g, false, [o']) := by
  rw [orc_fn (d + 3) pg43]
  obtain ⟨z1, o1, a1, a2, s1, p1⟩ := run_pick (d + 2) ho (most := (r.length : Int) - 1) (by omega) (by omega)
  obtain ⟨z2, o2, b1, b2, s2, p2⟩ := run_pick (d + 2) s1 (most := 7) (by omega) (by omega)
  have f := run_law_fraction (d + 1) z2 6 (by omega) (sm_gcd (by omega) (sm_small (by decide)))
  have e : Rat.divInt z2 6 = (z2 : Rat) / 6 := Rat.divInt_eq_div z2 6
  have q0 : (0 : Rat) ≤ (z2 : Rat) := Rat.intCast_nonneg.mpr b1
  have q1 : (z2 : Rat) ≤ 6 := by
    have : ((z2 : Int) : Rat) ≤ ((6 : Int) : Rat) := Rat.intCast_le_intCast.mpr (by omega)
    simpa using this
  refine ⟨(z1.toNat, Rat.divInt z2 6), o2, ⟨by show z1.toNat + 1 < r.length; omega, small_fr z2 6 (by omega) b1 (by omega) (by omega)⟩, ?_, ?_, s2, ?_⟩
  · show 0 ≤ Rat.divInt z2 6
    rw [e]; grind
  · show Rat.divInt z2 6 ≤ 1
    rw [e]; grind
  · have e : gsp (z1.toNat, Rat.divInt z2 6) = .tuple [.int z1, fr (Rat.divInt z2 6)] := by
      have : ((z1.toNat : Nat) : Int) = z1 := by omega
      simp [gsp, this]
    rw [e]
    simp [b43, runFn, sxs_cons, sxs_nil, sx_asg, sx_asgT, sx_alloc, sx_par, sx_if, sx_retV, ret_tup, evn_tup, ret_lst, evn_lst, ret_bin, evn_bin, ret_neg, evn_neg, ret_not, evn_not, ret_cmp, evn_cmp, ret_chain, evn_chain, ret_and, evn_and, ret_or, evn_or, ret_ite, evn_ite, ret_ix, evn_ix, ret_sl, evn_sl, ret_bf, evn_bf, ret_met, evn_met, ret_comp, evn_comp, ret_cst, evn_cst, ret_call, sx_expr, sx_aug, sx_brk, sx_cnt, ev_var, ev_cst, ev_tup, ev_lst, ev_bin, ev_neg, ev_not, ev_cmp, ev_chain, ev_and, ev_or, ev_ite, ev_ix, ev_sl, ev_back, ev_call, ev_bf, ev_met, evn_call, evns, evs, evp, evt, own, setAll, callC, derefs, isRef, op1, op2, dt, vd, vb, Cr.part, intD, deref, items_list, items_tuple, Cr.ixN, ix_tup, ix_list, ix_fr0, ix_fr1, ix_sp0, ix_sp1, ix_gsp0, ix_gsp1, items_fr, items_sp, items_rg, cmp_eqF, cmp_neF, binD, tru_int, tru_bool, bd_nm, bd_tup, bds_nil, bds_cons, frz, frzV, isNew, bfD, metS, metD, isLst, cmp_eqI, cmp_neI, cmp_ltI, cmp_leI, cmp_gtI, cmp_geI, cmp_isNone, cmp_isNoneT, cmp_notNone, cmp_notNoneT, cmp_notB, cmp_isB, cmp_neB, cmp_eqB, bd_sp, bd_gsp, bd_pkd, items_gsp, rf0, rf1, rf2, rf3, rf4, rf5, rf6, rf7, rf8, rf9, rf10, rf11, rf12, rf13, rf14, rf15, rf16, rf17, rf18, rf19, rf20, rf21, rf22, rf23, rf24, rf25, rf26, rf27, rf28, rf29, rf30, rf31, rf32, rf33, rf34, rf35, rf36, rf37, rf38, rf39, rf40, rf41, rf42, rf43, rf44, rf45, hands, p1, p2, f, line]
theorem run_spotR (d : Nat) {r : List Pt} {h : Rat} {gs : List (Nat × Rat)} (H : Sit r h gs) {g : Nat × Rat} (hg : g ∈ gs) : G.orc (d + 6) 16 [.d (rg r), .d (gsp g)] [] = some (sp (spotR r g), false, []) :=
  run_spot_of d (H.ok g hg).a (H.ok g hg).b (H.zr _ (a_mem (H.ok g hg))) (H.zr _ (b_mem (H.ok g hg))) (H.ok g hg).sz (by omega)
end Lw

/-! ## LwB4 -/
set_option Elab.async false
set_option linter.all false
set_option autoImplicit false
set_option maxRecDepth 100000
set_option maxHeartbeats 4000000
set_option exponentiation.threshold 100000
namespace Lw
open PySem PySem.Spec Cr
--NN 21
/-! ### the statements of the law -/
def dB : List CS := [
      .asg (.nm 14) (.bin .add (.var 14) (.lst [(.var 15), (.var 16), (.call 32 [(.call 28 [(.var 15), (.var 16)]), (.tup [(.cst (.int 2)), (.cst (.int 1))])])])),
      .asg (.nm 14) (.bin .add (.var 14) (.lst [(.call 30 [(.var 15), (.tup [(.cst (.int 1)), (.cst (.int 97))])]), (.call 28 [(.var 16), (.tup [(.cst (.int 1)), (.cst (.int 97))])])]))]
def zB : List CS := [
      .asg (.nm 18) (.comp [17] (.nm 17) (.var 14) [(.and (.not (.call 31 [(.var 17), (.var 15)])) (.not (.call 31 [(.var 16), (.var 17)])))] (.var 17)),
      .sif (.cmp .ne (.comp [17] (.nm 17) (.var 14) [(.call 38 [(.var 3), (.var 4), (.var 17), (.var 11)])] (.var 17)) (.var 18)) [.ret (.cst (.bool false))] [],
      .sif (.cmp .ne (.bf .list [(.call 22 [(.var 3), (.var 4), (.var 14), (.var 12)])]) (.var 18)) [.ret (.cst (.bool false))] [],
      .sif (.cmp .ne (.comp [17] (.nm 17) (.var 14) [(.call 21 [(.var 3), (.var 4), (.var 17), (.var 12)])] (.var 17)) (.var 18)) [.ret (.cst (.bool false))] []]
def u1 : CS := .asg (.nm 3) (.call 40 [(.var 1), (.cst (.int 6))])
def u2 : CS := .asg (.nm 4) (.call 41 [(.var 1), (.var 3)])
def u3 : CS := .asg (.nm 5) (.comp [6] (.nm 6) (.rng (.cst (.int 0)) (.cst (.int 4))) [] (.call 43 [(.var 1), (.var 3)]))
def u4 : CS := .asg (.nm 7) (.comp [8, 9] (.tup [(.nm 8), (.nm 9)]) (.var 5) [] (.call 36 [(.var 3), (.var 8), (.var 9)]))
def u5 : CS := .asg (.nm 10) (.comp [11] (.nm 11) (.var 7) [] (.call 39 [(.var 3), (.var 4), (.var 11)]))
def u6 : CS := .sif (.cmp .ne (.comp [12] (.nm 12) (.var 5) [] (.call 16 [(.var 3), (.var 12)])) (.var 7)) [.ret (.cst (.bool false))] []
def u7 : CS := .sif (.cmp .ne (.comp [13] (.nm 13) (.var 5) [] (.call 24 [(.var 3), (.var 4), (.var 13)])) (.var 10)) [.ret (.cst (.bool false))] []
def u8 : CS := .asg (.nm 14) (.comp [6] (.nm 6) (.rng (.cst (.int 0)) (.cst (.int 4))) [] (.call 42 [(.var 1), (.var 3)]))
def u9 : CS := .sfor (.tup [(.nm 15), (.nm 16)]) (.var 10) dB
def u10 : CS := .asg (.nm 14) (.comp [17] (.nm 17) (.call 35 [(.var 14)]) [(.call 18 [(.var 3), (.var 17)])] (.var 17))
def u11 : CS := .sfor (.tup [(.nm 12), (.nm 11), (.tup [(.nm 15), (.nm 16)])]) (.zip3 (.var 5) (.var 7) (.var 10)) zB
def u12 : CS := .asg (.tup [(.nm 15), (.nm 16)]) (.tup [(.call 34 [(.comp [13] (.nm 13) (.var 10) [] (.ix (.var 13) (.cst (.int 0))))]), (.call 33 [(.comp [13] (.nm 13) (.var 10) [] (.ix (.var 13) (.cst (.int 1))))])])
def u13 : CS := .sif (.cmp .ne (.call 25 [(.var 3), (.var 4), (.var 5)]) (.tup [(.var 15), (.var 16)])) [.ret (.cst (.bool false))] []
def u14 : CS := .asg (.nm 19) (.comp [13] (.nm 13) (.var 10) [] (.bf .any [(.comp [20] (.nm 20) (.var 10) [] (.call 31 [(.ix (.var 20) (.cst (.int 1))), (.ix (.var 13) (.cst (.int 0)))]))]))
def u15 : CS := .sif (.cmp .ne (.call 31 [(.var 16), (.var 15)]) (.bf .any [(.var 19)])) [.ret (.cst (.bool false))] []
def lapB : List CS := [u1, u2, u3, u4, u5, u6, u7, u8, u9, u10, u11, u12, u13, u14, u15]
theorem b_lap : b44 = [.opn 1 (.var 0), .sfor (.nm 2) (.rng (.cst (.int 0)) (.cst (.int 3))) lapB, .ret (.cst (.bool true))] := rfl
def spD (r : List Pt) (g : Nat × Rat) : PyData := sp (spotR r g)
def rcD (r : List Pt) (h : Rat) (g : Nat × Rat) : PyData := sp (reachR r h g)
theorem sps_eq (r : List Pt) (gs : List (Nat × Rat)) : gs.map (spD r) = (gs.map (spotR r)).map sp := by rw [List.map_map]; rfl
theorem rcs_eq (r : List Pt) (h : Rat) (gs : List (Nat × Rat)) : gs.map (rcD r h) = (gs.map (reachR r h)).map sp := by rw [List.map_map]; rfl
section
variable {r : List Pt} {h : Rat} {gs : List (Nat × Rat)}
theorem do_u1 (d : Nat) {o : Cr.PO} (ho : IsSrc o) {rest : Store} {c0 c2 c3 c4 c5 c6 c7 c8 c9 c10 c11 c12 c13 c14 c15 c16 c17 c18 c19 c20 : Option PV} : ∃ (r : List Pt) (o' : Cr.PO), 2 ≤ r.length ∧ r.length ≤ 30 ∧ r.Pairwise (fun a b => a.1 < b.1) ∧ (∀ c ∈ r, szp 8 c) ∧ IsSrc o' ∧ sx ⟨G.refs, G.orc (d + 9)⟩ 0 u1 [c0, some (.r 0), c2, c3, c4, c5, c6, c7, c8, c9, c10, c11, c12, c13, c14, c15, c16, c17, c18, c19, c20] (o :: rest) = some (.nx [c0, some (.r 0), c2, some (.d (rg r)), c4, c5, c6, c7, c8, c9, c10, c11, c12, c13, c14, c15, c16, c17, c18, c19, c20] (o' :: rest)) := by
  obtain ⟨r, o', q1, q2, q3, q4, q5, f⟩ := run_ridge (d + 6) ho (most := 6) (by omega) (by omega)
  refine ⟨r, o', q1, q2, q3, q4, q5, ?_⟩
  simp [u1, runFn, sxs_cons, sxs_nil, sx_asg, sx_asgT, sx_alloc, sx_par, sx_if, sx_retV, ret_tup, evn_tup, ret_lst, evn_lst, ret_bin, evn_bin, ret_neg, evn_neg, ret_not, evn_not, ret_cmp, evn_cmp, ret_chain, evn_chain, ret_and, evn_and, ret_or, evn_or, ret_ite, evn_ite, ret_ix, evn_ix, ret_sl, evn_sl, ret_bf, evn_bf, ret_met, evn_met, ret_comp, evn_comp, ret_cst, evn_cst, ret_call, sx_expr, sx_aug, sx_brk, sx_cnt, ev_var, ev_cst, ev_tup, ev_lst, ev_bin, ev_neg, ev_not, ev_cmp, ev_chain, ev_and, ev_or, ev_ite, ev_ix, ev_sl, ev_back, ev_call, ev_bf, ev_met, evn_call, evns, evs, evp, evt, own, setAll, callC, derefs, isRef, op1, op2, dt, vd, vb, Cr.part, intD, deref, items_list, items_tuple, Cr.ixN, ix_tup, ix_list, ix_fr0, ix_fr1, ix_sp0, ix_sp1, ix_gsp0, ix_gsp1, items_fr, items_sp, items_rg, cmp_eqF, cmp_neF, binD, tru_int, tru_bool, bd_nm, bd_tup, bds_nil, bds_cons, frz, frzV, isNew, bfD, metS, metD, isLst, cmp_eqI, cmp_neI, cmp_ltI, cmp_leI, cmp_gtI, cmp_geI, cmp_isNone, cmp_isNoneT, cmp_notNone, cmp_notNoneT, cmp_notB, cmp_isB, cmp_neB, cmp_eqB, bd_sp, bd_gsp, bd_pkd, items_gsp, rf0, rf1, rf2, rf3, rf4, rf5, rf6, rf7, rf8, rf9, rf10, rf11, rf12, rf13, rf14, rf15, rf16, rf17, rf18, rf19, rf20, rf21, rf22, rf23, rf24, rf25, rf26, rf27, rf28, rf29, rf30, rf31, rf32, rf33, rf34, rf35, rf36, rf37, rf38, rf39, rf40, rf41, rf42, rf43, rf44, rf45, hands, f]
theorem do_u2 (d : Nat) {o : Cr.PO} (ho : IsSrc o) (h2 : 2 ≤ r.length) (hr : r.length ≤ 30) (zr : ∀ c ∈ r, szp 8 c) {rest : Store} {c0 c2 c4 c5 c6 c7 c8 c9 c10 c11 c12 c13 c14 c15 c16 c17 c18 c19 c20 : Option PV} : ∃ (h : Rat) (o' : Cr.PO), sz 14 h ∧ (∀ c ∈ r, c.2 < h) ∧ IsSrc o' ∧ sx ⟨G.refs, G.orc (d + 9)⟩ 0 u2 [c0, some (.r 0), c2, some (.d (rg r)), c4, c5, c6, c7, c8, c9, c10, c11, c12, c13, c14, c15, c16, c17, c18, c19, c20] (o :: rest) = some (.nx [c0, some (.r 0), c2, some (.d (rg r)), some (.d (fr h)), c5, c6, c7, c8, c9, c10, c11, c12, c13, c14, c15, c16, c17, c18, c19, c20] (o' :: rest)) := by
  obtain ⟨h, o', q1, q2, q3, f⟩ := run_height (d + 5) ho (r := r) (by intro e; rw [e] at h2; simp at h2) zr (by omega) (by omega)
  refine ⟨h, o', q1, q2, q3, ?_⟩
  simp [u2, runFn, sxs_cons, sxs_nil, sx_asg, sx_asgT, sx_alloc, sx_par, sx_if, sx_retV, ret_tup, evn_tup, ret_lst, evn_lst, ret_bin, evn_bin, ret_neg, evn_neg, ret_not, evn_not, ret_cmp, evn_cmp, ret_chain, evn_chain, ret_and, evn_and, ret_or, evn_or, ret_ite, evn_ite, ret_ix, evn_ix, ret_sl, evn_sl, ret_bf, evn_bf, ret_met, evn_met, ret_comp, evn_comp, ret_cst, evn_cst, ret_call, sx_expr, sx_aug, sx_brk, sx_cnt, ev_var, ev_cst, ev_tup, ev_lst, ev_bin, ev_neg, ev_not, ev_cmp, ev_chain, ev_and, ev_or, ev_ite, ev_ix, ev_sl, ev_back, ev_call, ev_bf, ev_met, evn_call, evns, evs, evp, evt, own, setAll, callC, derefs, isRef, op1, op2, dt, vd, vb, Cr.part, intD, deref, items_list, items_tuple, Cr.ixN, ix_tup, ix_list, ix_fr0, ix_fr1, ix_sp0, ix_sp1, ix_gsp0, ix_gsp1, items_fr, items_sp, items_rg, cmp_eqF, cmp_neF, binD, tru_int, tru_bool, bd_nm, bd_tup, bds_nil, bds_cons, frz, frzV, isNew, bfD, metS, metD, isLst, cmp_eqI, cmp_neI, cmp_ltI, cmp_leI, cmp_gtI, cmp_geI, cmp_isNone, cmp_isNoneT, cmp_notNone, cmp_notNoneT, cmp_notB, cmp_isB, cmp_neB, cmp_eqB, bd_sp, bd_gsp, bd_pkd, items_gsp, rf0, rf1, rf2, rf3, rf4, rf5, rf6, rf7, rf8, rf9, rf10, rf11, rf12, rf13, rf14, rf15, rf16, rf17, rf18, rf19, rf20, rf21, rf22, rf23, rf24, rf25, rf26, rf27, rf28, rf29, rf30, rf31, rf32, rf33, rf34, rf35, rf36, rf37, rf38, rf39, rf40, rf41, rf42, rf43, rf44, rf45, hands, f]
theorem rng4 (P : Prm) (ρ : Ev) (S : Store) : evi P (.rng (.cst (.int 0)) (.cst (.int 4))) ρ S = some ((rangeL 0 4, fun _ => True), S) :=
  evi_rng (S1 := S) (x := .int 0) (y := .int 4) (by simp [ev_cst]) (by simp [ev_cst]) (rng_ok (by omega) (by omega) (by omega) (by omega))
theorem do_u3 (d : Nat) {o : Cr.PO} (ho : IsSrc o) (h2 : 2 ≤ r.length) (hr : r.length ≤ 30) {rest : Store} {c0 c2 c4 c5 c6 c7 c8 c9 c10 c11 c12 c13 c14 c15 c16 c17 c18 c19 c20 : Option PV} : ∃ (gs : List (Nat × Rat)) (o' : Cr.PO), gs.length = 4 ∧ (∀ g ∈ gs, GOk r 5 g ∧ 0 ≤ g.2 ∧ g.2 ≤ 1) ∧ IsSrc o' ∧ sx ⟨G.refs, G.orc (d + 9)⟩ 0 u3 [c0, some (.r 0), c2, some (.d (rg r)), c4, c5, c6, c7, c8, c9, c10, c11, c12, c13, c14, c15, c16, c17, c18, c19, c20] (o :: rest) = some (.nx [c0, some (.r 0), c2, some (.d (rg r)), c4, some (.d (.list (gs.map gsp))), c6, c7, c8, c9, c10, c11, c12, c13, c14, c15, c16, c17, c18, c19, c20] (o' :: rest)) := by
  have hlen : (rangeL 0 4).length = 4 := rfl
  obtain ⟨gs, S', e, l, q, ⟨o', e', s'⟩⟩ := comp_draw (d := gsp) (Q := fun S => ∃ o', S = o' :: rest ∧ IsSrc o') (R := fun g => GOk r 5 g ∧ 0 ≤ g.2 ∧ g.2 ≤ 1) (own := [6]) (p := .nm 6) (ifs := []) (elt := .call 43 [(.var 1), (.var 3)]) (rng4 ⟨G.refs, G.orc (d + 9)⟩ [c0, some (.r 0), c2, some (.d (rg r)), c4, c5, c6, c7, c8, c9, c10, c11, c12, c13, c14, c15, c16, c17, c18, c19, c20] (o :: rest)) (fun _ => trivial) (by rw [hlen]; show 4 ≤ 16777216; omega) ⟨o, rfl, ho⟩ (by
      rintro x S ⟨o2, rfl, s2⟩
      obtain ⟨g, o3, g1, g2, g3, s3, p3⟩ := run_ground (d + 5) s2 h2 (by omega)
      refine ⟨g, o3 :: rest, ?_, ⟨g1, g2, g3⟩, o3, rfl, s3⟩
      simp [turnC, eltC, wipeE, runFn, sxs_cons, sxs_nil, sx_asg, sx_asgT, sx_alloc, sx_par, sx_if, sx_retV, ret_tup, evn_tup, ret_lst, evn_lst, ret_bin, evn_bin, ret_neg, evn_neg, ret_not, evn_not, ret_cmp, evn_cmp, ret_chain, evn_chain, ret_and, evn_and, ret_or, evn_or, ret_ite, evn_ite, ret_ix, evn_ix, ret_sl, evn_sl, ret_bf, evn_bf, ret_met, evn_met, ret_comp, evn_comp, ret_cst, evn_cst, ret_call, sx_expr, sx_aug, sx_brk, sx_cnt, ev_var, ev_cst, ev_tup, ev_lst, ev_bin, ev_neg, ev_not, ev_cmp, ev_chain, ev_and, ev_or, ev_ite, ev_ix, ev_sl, ev_back, ev_call, ev_bf, ev_met, evn_call, evns, evs, evp, evt, own, setAll, callC, derefs, isRef, op1, op2, dt, vd, vb, Cr.part, intD, deref, items_list, items_tuple, Cr.ixN, ix_tup, ix_list, ix_fr0, ix_fr1, ix_sp0, ix_sp1, ix_gsp0, ix_gsp1, items_fr, items_sp, items_rg, cmp_eqF, cmp_neF, binD, tru_int, tru_bool, bd_nm, bd_tup, bds_nil, bds_cons, frz, frzV, isNew, bfD, metS, metD, isLst, cmp_eqI, cmp_neI, cmp_ltI, cmp_leI, cmp_gtI, cmp_geI, cmp_isNone, cmp_isNoneT, cmp_notNone, cmp_notNoneT, cmp_notB, cmp_isB, cmp_neB, cmp_eqB, bd_sp, bd_gsp, bd_pkd, items_gsp, rf0, rf1, rf2, rf3, rf4, rf5, rf6, rf7, rf8, rf9, rf10, rf11, rf12, rf13, rf14, rf15, rf16, rf17, rf18, rf19, rf20, rf21, rf22, rf23, rf24, rf25, rf26, rf27, rf28, rf29, rf30, rf31, rf32, rf33, rf34, rf35, rf36, rf37, rf38, rf39, rf40, rf41, rf42, rf43, rf44, rf45, hands, p3])
  subst e'
  refine ⟨gs, o', by rw [l, hlen], q, s', ?_⟩
  unfold u3
  rw [sx_asg, e]
  simp
theorem comp_e (P : Prm) (ρ : Ev) {v : Nat} {S : Store} {α : Type} {xs : List α} {d w : α → PyData} {own : List Nat} {p : Pat} {elt : CE} (hv : ρ[v]? = some (some (.d (.list (xs.map d))))) (hx : xs.length ≤ 1000) (H : ∀ x ∈ xs, turnC P own p [] (eltC P elt) ρ (d x) S = some ([w x], S)) : ev P (.comp own p (.var v) [] elt) ρ S = some (.d (.list (xs.map w)), S) := by
  have he : evi P (.var v) ρ S = some ((xs.map d, still (.d (.list (xs.map d))) (xs.map d)), S) := by
    simp [evi, itV, ev_var, deref, hv, items_list]
  rw [← flatMap_one (h := w)]
  refine comp_map he trivial ?_ H
  rw [flatMap_one, List.length_map]
  show xs.length ≤ 16777216
  omega
theorem comp_f (P : Prm) (ρ : Ev) {v : Nat} {S : Store} {xs : List Rat} {own : List Nat} {p : Pat} {c elt : CE} {b : Rat → Bool} (hv : ρ[v]? = some (some (.d (.list (xs.map fr))))) (hx : xs.length ≤ 1000) (H : ∀ x ∈ xs, turnC P own p [c] (eltC P elt) ρ (fr x) S = some (if b x = true then [fr x] else [], S)) : ev P (.comp own p (.var v) [c] elt) ρ S = some (.d (.list ((xs.filter b).map fr)), S) := by
  have he : evi P (.var v) ρ S = some ((xs.map fr, still (.d (.list (xs.map fr))) (xs.map fr)), S) := by
    simp [evi, itV, ev_var, deref, hv, items_list]
  rw [← flatMap_if b fr xs]
  refine comp_map he trivial ?_ H
  rw [flatMap_if, List.length_map]
  have := List.length_filter_le b xs
  show _ ≤ 16777216
  omega
theorem do_u4 (d : Nat) (H : Sit r h gs) {S : Store} {c0 c1 c2 c4 c6 c7 c8 c9 c10 c11 c12 c13 c14 c15 c16 c17 c18 c19 c20 : Option PV} : sx ⟨G.refs, G.orc (d + 9)⟩ 0 u4 [c0, c1, c2, some (.d (rg r)), c4, some (.d (.list (gs.map gsp))), c6, c7, c8, c9, c10, c11, c12, c13, c14, c15, c16, c17, c18, c19, c20] S = some (.nx [c0, c1, c2, some (.d (rg r)), c4, some (.d (.list (gs.map gsp))), c6, some (.d (.list (gs.map (spD r)))), c8, c9, c10, c11, c12, c13, c14, c15, c16, c17, c18, c19, c20] S) := by
  have e := comp_e ⟨G.refs, G.orc (d + 9)⟩ [c0, c1, c2, some (.d (rg r)), c4, some (.d (.list (gs.map gsp))), c6, c7, c8, c9, c10, c11, c12, c13, c14, c15, c16, c17, c18, c19, c20] (v := 5) (S := S) (xs := gs) (d := gsp) (w := spD r) (own := [8, 9]) (p := .tup [(.nm 8), (.nm 9)]) (elt := .call 36 [(.var 3), (.var 8), (.var 9)]) rfl H.few fun g hg => by
    have f := run_law_spot (d + 4) (H.ok g hg).a (H.ok g hg).b (H.zr _ (a_mem (H.ok g hg))) (H.zr _ (b_mem (H.ok g hg))) (H.ok g hg).sz (by omega)
    have f : G.orc (d + 9) 36 [.d (rg r), .d (.int (g.1 : Int)), .d (fr g.2)] [] = some (spD r g, false, []) := f
    generalize spD r g = s at *
    simp [turnC, eltC, wipeE, bd_gsp, bds_cons, bds_nil, bd_nm, evt, ev_call, evp, ev_var, callC, derefs, deref, rf0, rf1, rf2, rf3, rf4, rf5, rf6, rf7, rf8, rf9, rf10, rf11, rf12, rf13, rf14, rf15, rf16, rf17, rf18, rf19, rf20, rf21, rf22, rf23, rf24, rf25, rf26, rf27, rf28, rf29, rf30, rf31, rf32, rf33, rf34, rf35, rf36, rf37, rf38, rf39, rf40, rf41, rf42, rf43, rf44, rf45, f, dt, isRef]
  unfold u4
  rw [sx_asg, e]
  simp
theorem do_u5 (d : Nat) (H : Sit r h gs) {S : Store} {c0 c1 c2 c5 c6 c8 c9 c10 c11 c12 c13 c14 c15 c16 c17 c18 c19 c20 : Option PV} : sx ⟨G.refs, G.orc (d + 9)⟩ 0 u5 [c0, c1, c2, some (.d (rg r)), some (.d (fr h)), c5, c6, some (.d (.list (gs.map (spD r)))), c8, c9, c10, c11, c12, c13, c14, c15, c16, c17, c18, c19, c20] S = some (.nx [c0, c1, c2, some (.d (rg r)), some (.d (fr h)), c5, c6, some (.d (.list (gs.map (spD r)))), c8, c9, some (.d (.list (gs.map (rcD r h)))), c11, c12, c13, c14, c15, c16, c17, c18, c19, c20] S) := by
  have l30 := H.l30
  have e := comp_e ⟨G.refs, G.orc (d + 9)⟩ [c0, c1, c2, some (.d (rg r)), some (.d (fr h)), c5, c6, some (.d (.list (gs.map (spD r)))), c8, c9, c10, c11, c12, c13, c14, c15, c16, c17, c18, c19, c20] (v := 7) (S := S) (xs := gs) (d := spD r) (w := rcD r h) (own := [11]) (p := .nm 11) (elt := .call 39 [(.var 3), (.var 4), (.var 11)]) rfl H.few fun g hg => by
    have f := run_law_reach (d + 4) H.r0 H.zr (sz_spot (H.ok g hg) H.zr) H.zh (by omega) (by omega)
    have f : G.orc (d + 9) 39 [.d (rg r), .d (fr h), .d (spD r g)] [] = some (rcD r h g, false, []) := f
    generalize spD r g = s at *
    generalize rcD r h g = p at *
    simp [turnC, eltC, wipeE, bd_nm, evt, ev_call, evp, ev_var, callC, derefs, deref, rf0, rf1, rf2, rf3, rf4, rf5, rf6, rf7, rf8, rf9, rf10, rf11, rf12, rf13, rf14, rf15, rf16, rf17, rf18, rf19, rf20, rf21, rf22, rf23, rf24, rf25, rf26, rf27, rf28, rf29, rf30, rf31, rf32, rf33, rf34, rf35, rf36, rf37, rf38, rf39, rf40, rf41, rf42, rf43, rf44, rf45, f, dt, isRef]
  unfold u5
  rw [sx_asg, e]
  simp
theorem do_u6 (d : Nat) (H : Sit r h gs) {S : Store} {c0 c1 c2 c4 c6 c8 c9 c10 c11 c12 c13 c14 c15 c16 c17 c18 c19 c20 : Option PV} : sx ⟨G.refs, G.orc (d + 9)⟩ 0 u6 [c0, c1, c2, some (.d (rg r)), c4, some (.d (.list (gs.map gsp))), c6, some (.d (.list (gs.map (spD r)))), c8, c9, c10, c11, c12, c13, c14, c15, c16, c17, c18, c19, c20] S = some (.nx [c0, c1, c2, some (.d (rg r)), c4, some (.d (.list (gs.map gsp))), c6, some (.d (.list (gs.map (spD r)))), c8, c9, c10, c11, c12, c13, c14, c15, c16, c17, c18, c19, c20] S) := by
  have e := comp_e ⟨G.refs, G.orc (d + 9)⟩ [c0, c1, c2, some (.d (rg r)), c4, some (.d (.list (gs.map gsp))), c6, some (.d (.list (gs.map (spD r)))), c8, c9, c10, c11, c12, c13, c14, c15, c16, c17, c18, c19, c20] (v := 5) (S := S) (xs := gs) (d := gsp) (w := spD r) (own := [12]) (p := .nm 12) (elt := .call 16 [(.var 3), (.var 12)]) rfl H.few fun g hg => by
    have f := run_spotR (d + 3) H hg
    have f : G.orc (d + 9) 16 [.d (rg r), .d (gsp g)] [] = some (spD r g, false, []) := f
    generalize spD r g = s at *
    generalize gsp g = gd at *
    simp [turnC, eltC, wipeE, bd_nm, evt, ev_call, evp, ev_var, callC, derefs, deref, rf0, rf1, rf2, rf3, rf4, rf5, rf6, rf7, rf8, rf9, rf10, rf11, rf12, rf13, rf14, rf15, rf16, rf17, rf18, rf19, rf20, rf21, rf22, rf23, rf24, rf25, rf26, rf27, rf28, rf29, rf30, rf31, rf32, rf33, rf34, rf35, rf36, rf37, rf38, rf39, rf40, rf41, rf42, rf43, rf44, rf45, f, dt, isRef]
  have c := cmp_ne_sps (gs.map (spotR r))
  rw [← sps_eq] at c
  generalize gs.map (spD r) = L at *
  generalize gs.map gsp = L5 at *
  simp [u6, runFn, sxs_cons, sxs_nil, sx_asg, sx_asgT, sx_alloc, sx_par, sx_if, sx_retV, ret_tup, evn_tup, ret_lst, evn_lst, ret_bin, evn_bin, ret_neg, evn_neg, ret_not, evn_not, ret_cmp, evn_cmp, ret_chain, evn_chain, ret_and, evn_and, ret_or, evn_or, ret_ite, evn_ite, ret_ix, evn_ix, ret_sl, evn_sl, ret_bf, evn_bf, ret_met, evn_met, ret_comp, evn_comp, ret_cst, evn_cst, ret_call, sx_expr, sx_aug, sx_brk, sx_cnt, ev_var, ev_cst, ev_tup, ev_lst, ev_bin, ev_neg, ev_not, ev_cmp, ev_chain, ev_and, ev_or, ev_ite, ev_ix, ev_sl, ev_back, ev_call, ev_bf, ev_met, evn_call, evns, evs, evp, evt, own, setAll, callC, derefs, isRef, op1, op2, dt, vd, vb, Cr.part, intD, deref, items_list, items_tuple, Cr.ixN, ix_tup, ix_list, ix_fr0, ix_fr1, ix_sp0, ix_sp1, ix_gsp0, ix_gsp1, items_fr, items_sp, items_rg, cmp_eqF, cmp_neF, binD, tru_int, tru_bool, bd_nm, bd_tup, bds_nil, bds_cons, frz, frzV, isNew, bfD, metS, metD, isLst, cmp_eqI, cmp_neI, cmp_ltI, cmp_leI, cmp_gtI, cmp_geI, cmp_isNone, cmp_isNoneT, cmp_notNone, cmp_notNoneT, cmp_notB, cmp_isB, cmp_neB, cmp_eqB, bd_sp, bd_gsp, bd_pkd, items_gsp, rf0, rf1, rf2, rf3, rf4, rf5, rf6, rf7, rf8, rf9, rf10, rf11, rf12, rf13, rf14, rf15, rf16, rf17, rf18, rf19, rf20, rf21, rf22, rf23, rf24, rf25, rf26, rf27, rf28, rf29, rf30, rf31, rf32, rf33, rf34, rf35, rf36, rf37, rf38, rf39, rf40, rf41, rf42, rf43, rf44, rf45, e, c]
theorem do_u7 (d : Nat) (H : Sit r h gs) {S : Store} {c0 c1 c2 c6 c7 c8 c9 c11 c12 c13 c14 c15 c16 c17 c18 c19 c20 : Option PV} : sx ⟨G.refs, G.orc (d + 9)⟩ 0 u7 [c0, c1, c2, some (.d (rg r)), some (.d (fr h)), some (.d (.list (gs.map gsp))), c6, c7, c8, c9, some (.d (.list (gs.map (rcD r h)))), c11, c12, c13, c14, c15, c16, c17, c18, c19, c20] S = some (.nx [c0, c1, c2, some (.d (rg r)), some (.d (fr h)), some (.d (.list (gs.map gsp))), c6, c7, c8, c9, some (.d (.list (gs.map (rcD r h)))), c11, c12, c13, c14, c15, c16, c17, c18, c19, c20] S) := by
  have l30 := H.l30
  have e := comp_e ⟨G.refs, G.orc (d + 9)⟩ [c0, c1, c2, some (.d (rg r)), some (.d (fr h)), some (.d (.list (gs.map gsp))), c6, c7, c8, c9, some (.d (.list (gs.map (rcD r h)))), c11, c12, c13, c14, c15, c16, c17, c18, c19, c20] (v := 5) (S := S) (xs := gs) (d := gsp) (w := rcD r h) (own := [13]) (p := .nm 13) (elt := .call 24 [(.var 3), (.var 4), (.var 13)]) rfl H.few fun g hg => by
    have f := run_reachR (d + 1) (H.ok g hg) H.zr H.zh (by omega) (by omega)
    have f : G.orc (d + 9) 24 [.d (rg r), .d (fr h), .d (gsp g)] [] = some (rcD r h g, false, []) := f
    generalize rcD r h g = s at *
    generalize gsp g = gd at *
    simp [turnC, eltC, wipeE, bd_nm, evt, ev_call, evp, ev_var, callC, derefs, deref, rf0, rf1, rf2, rf3, rf4, rf5, rf6, rf7, rf8, rf9, rf10, rf11, rf12, rf13, rf14, rf15, rf16, rf17, rf18, rf19, rf20, rf21, rf22, rf23, rf24, rf25, rf26, rf27, rf28, rf29, rf30, rf31, rf32, rf33, rf34, rf35, rf36, rf37, rf38, rf39, rf40, rf41, rf42, rf43, rf44, rf45, f, dt, isRef]
  have c := cmp_ne_sps (gs.map (reachR r h))
  rw [← rcs_eq] at c
  generalize gs.map (rcD r h) = L at *
  generalize gs.map gsp = L5 at *
  simp [u7, runFn, sxs_cons, sxs_nil, sx_asg, sx_asgT, sx_alloc, sx_par, sx_if, sx_retV, ret_tup, evn_tup, ret_lst, evn_lst, ret_bin, evn_bin, ret_neg, evn_neg, ret_not, evn_not, ret_cmp, evn_cmp, ret_chain, evn_chain, ret_and, evn_and, ret_or, evn_or, ret_ite, evn_ite, ret_ix, evn_ix, ret_sl, evn_sl, ret_bf, evn_bf, ret_met, evn_met, ret_comp, evn_comp, ret_cst, evn_cst, ret_call, sx_expr, sx_aug, sx_brk, sx_cnt, ev_var, ev_cst, ev_tup, ev_lst, ev_bin, ev_neg, ev_not, ev_cmp, ev_chain, ev_and, ev_or, ev_ite, ev_ix, ev_sl, ev_back, ev_call, ev_bf, ev_met, evn_call, evns, evs, evp, evt, own, setAll, callC, derefs, isRef, op1, op2, dt, vd, vb, Cr.part, intD, deref, items_list, items_tuple, Cr.ixN, ix_tup, ix_list, ix_fr0, ix_fr1, ix_sp0, ix_sp1, ix_gsp0, ix_gsp1, items_fr, items_sp, items_rg, cmp_eqF, cmp_neF, binD, tru_int, tru_bool, bd_nm, bd_tup, bds_nil, bds_cons, frz, frzV, isNew, bfD, metS, metD, isLst, cmp_eqI, cmp_neI, cmp_ltI, cmp_leI, cmp_gtI, cmp_geI, cmp_isNone, cmp_isNoneT, cmp_notNone, cmp_notNoneT, cmp_notB, cmp_isB, cmp_neB, cmp_eqB, bd_sp, bd_gsp, bd_pkd, items_gsp, rf0, rf1, rf2, rf3, rf4, rf5, rf6, rf7, rf8, rf9, rf10, rf11, rf12, rf13, rf14, rf15, rf16, rf17, rf18, rf19, rf20, rf21, rf22, rf23, rf24, rf25, rf26, rf27, rf28, rf29, rf30, rf31, rf32, rf33, rf34, rf35, rf36, rf37, rf38, rf39, rf40, rf41, rf42, rf43, rf44, rf45, e, c]
theorem do_u8 (d : Nat) (H : Sit r h gs) {o : Cr.PO} (ho : IsSrc o) {rest : Store} {c0 c2 c4 c5 c6 c7 c8 c9 c10 c11 c12 c13 c14 c15 c16 c17 c18 c19 c20 : Option PV} : ∃ (xs : List Rat) (o' : Cr.PO), xs.length = 4 ∧ (∀ x ∈ xs, sz 330 x) ∧ IsSrc o' ∧ sx ⟨G.refs, G.orc (d + 9)⟩ 0 u8 [c0, some (.r 0), c2, some (.d (rg r)), c4, c5, c6, c7, c8, c9, c10, c11, c12, c13, c14, c15, c16, c17, c18, c19, c20] (o :: rest) = some (.nx [c0, some (.r 0), c2, some (.d (rg r)), c4, c5, c6, c7, c8, c9, c10, c11, c12, c13, some (.d (.list (xs.map fr))), c15, c16, c17, c18, c19, c20] (o' :: rest)) := by
  obtain ⟨u, hu⟩ : ∃ u, r.head? = some u := by
    cases hr : r with
    | nil => exact absurd hr H.r0
    | cons u _ => exact ⟨u, rfl⟩
  have hv := List.getLast?_eq_some_getLast H.r0
  have zu := H.zr u (List.mem_of_head? hu)
  have zv := H.zr _ (List.mem_of_getLast? hv)
  have ev' := lastX_of hv
  have hle : u.1 ≤ (r.getLast H.r0).1 := by
    rw [← ev']
    exact le_last H.up u (List.mem_of_head? hu)
  have hlen : (rangeL 0 4).length = 4 := rfl
  obtain ⟨xs, S', e, l, q, ⟨o', e', s'⟩⟩ := comp_draw (d := fr) (Q := fun S => ∃ o', S = o' :: rest ∧ IsSrc o') (R := fun x => sz 330 x) (own := [6]) (p := .nm 6) (ifs := []) (elt := .call 42 [(.var 1), (.var 3)]) (rng4 ⟨G.refs, G.orc (d + 9)⟩ [c0, some (.r 0), c2, some (.d (rg r)), c4, c5, c6, c7, c8, c9, c10, c11, c12, c13, c14, c15, c16, c17, c18, c19, c20] (o :: rest)) (fun _ => trivial) (by rw [hlen]; show 4 ≤ 16777216; omega) ⟨o, rfl, ho⟩ (by
      rintro x S ⟨o2, rfl, s2⟩
      obtain ⟨y, o3, zy, -, -, s3, p3⟩ := run_place (d + 4) s2 hu hv zu zv hle (by omega)
      refine ⟨y, o3 :: rest, ?_, zy.mono (by omega), o3, rfl, s3⟩
      simp [turnC, eltC, wipeE, runFn, sxs_cons, sxs_nil, sx_asg, sx_asgT, sx_alloc, sx_par, sx_if, sx_retV, ret_tup, evn_tup, ret_lst, evn_lst, ret_bin, evn_bin, ret_neg, evn_neg, ret_not, evn_not, ret_cmp, evn_cmp, ret_chain, evn_chain, ret_and, evn_and, ret_or, evn_or, ret_ite, evn_ite, ret_ix, evn_ix, ret_sl, evn_sl, ret_bf, evn_bf, ret_met, evn_met, ret_comp, evn_comp, ret_cst, evn_cst, ret_call, sx_expr, sx_aug, sx_brk, sx_cnt, ev_var, ev_cst, ev_tup, ev_lst, ev_bin, ev_neg, ev_not, ev_cmp, ev_chain, ev_and, ev_or, ev_ite, ev_ix, ev_sl, ev_back, ev_call, ev_bf, ev_met, evn_call, evns, evs, evp, evt, own, setAll, callC, derefs, isRef, op1, op2, dt, vd, vb, Cr.part, intD, deref, items_list, items_tuple, Cr.ixN, ix_tup, ix_list, ix_fr0, ix_fr1, ix_sp0, ix_sp1, ix_gsp0, ix_gsp1, items_fr, items_sp, items_rg, cmp_eqF, cmp_neF, binD, tru_int, tru_bool, bd_nm, bd_tup, bds_nil, bds_cons, frz, frzV, isNew, bfD, metS, metD, isLst, cmp_eqI, cmp_neI, cmp_ltI, cmp_leI, cmp_gtI, cmp_geI, cmp_isNone, cmp_isNoneT, cmp_notNone, cmp_notNoneT, cmp_notB, cmp_isB, cmp_neB, cmp_eqB, bd_sp, bd_gsp, bd_pkd, items_gsp, rf0, rf1, rf2, rf3, rf4, rf5, rf6, rf7, rf8, rf9, rf10, rf11, rf12, rf13, rf14, rf15, rf16, rf17, rf18, rf19, rf20, rf21, rf22, rf23, rf24, rf25, rf26, rf27, rf28, rf29, rf30, rf31, rf32, rf33, rf34, rf35, rf36, rf37, rf38, rf39, rf40, rf41, rf42, rf43, rf44, rf45, hands, p3])
  subst e'
  refine ⟨xs, o', by rw [l, hlen], q, s', ?_⟩
  unfold u8
  rw [sx_asg, e]
  simp
theorem two_fr : PyData.tuple [.int 2, .int 1] = fr 2 := rfl
theorem loop_d (d : Nat) (gg : Store → Prop) (hgg : ∀ S, gg S) {S : Store} {c0 c1 c2 c3 c4 c5 c6 c7 c8 c9 c10 c11 c12 c13 c17 c18 c19 c20 : Option PV} : ∀ (ps : List Pt) (xs : List Rat) (o15 o16 : Option PV), (∀ p ∈ ps, szp 158 p) → (∀ x ∈ xs, sz 330 x) → xs.length + 5 * ps.length ≤ 900 →
    ∃ (ys : List Rat) (p15 p16 : Option PV), (∀ y ∈ ys, sz 330 y) ∧ ys.length = xs.length + 5 * ps.length ∧ forL gg (fun (y : PyData) (ρ : Ev) (S : Store) => (bd (.tup [(.nm 15), (.nm 16)]) y ρ).bind fun ρ1 => sxs ⟨G.refs, G.orc (d + 9)⟩ 0 dB ρ1 S) (ps.map sp)
      [c0, c1, c2, c3, c4, c5, c6, c7, c8, c9, c10, c11, c12, c13, some (.d (.list (xs.map fr))), o15, o16, c17, c18, c19, c20] S = some (.nx [c0, c1, c2, c3, c4, c5, c6, c7, c8, c9, c10, c11, c12, c13, some (.d (.list (ys.map fr))), p15, p16, c17, c18, c19, c20] S) := by
  intro ps
  induction ps with
  | nil => intro xs o15 o16 _ zx _; exact ⟨xs, o15, o16, zx, rfl, by rw [List.map_nil, forL_nil (hgg _)]⟩
  | cons p ps ih =>
    intro xs o15 o16 hp zx hl
    have zp := hp p List.mem_cons_self
    simp only [List.length_cons] at hl
    obtain ⟨w, hw⟩ : ∃ w : Rat, PyData.tuple [.int 1, .int 97] = fr w ∧ sz 10 w := ⟨⟨1, 97, by decide, by decide⟩, rfl, ⟨by decide, by decide⟩⟩
    have z2 : sz 2 (2 : Rat) := ⟨by decide, by decide⟩
    have n2 : (2 : Rat) ≠ 0 := by decide
    have f1 := run_law_sum (d + 6) zp.1 zp.2 (by omega)
    have f2 := run_law_over (d + 6) (sz_add zp.1 zp.2) z2 n2 (by omega)
    have f3 := run_law_less (d + 5) zp.1 hw.2 (by omega)
    have f4 := run_law_sum (d + 6) zp.2 hw.2 (by omega)
    have e1 : sz 330 ((p.1 + p.2) / 2) := (sz_quo (sz_add zp.1 zp.2) z2 n2).mono (by omega)
    have e2 : sz 330 (p.1 - w) := (sz_sub zp.1 hw.2).mono (by omega)
    have e3 : sz 330 (p.2 + w) := (sz_add zp.2 hw.2).mono (by omega)
    obtain ⟨ys, p15, p16, q1, q2, e⟩ := ih (xs ++ [p.1, p.2, (p.1 + p.2) / 2] ++ [p.1 - w, p.2 + w]) (some (.d (fr p.1))) (some (.d (fr p.2))) (fun q hq => hp q (List.mem_cons_of_mem _ hq)) (fun x hx => by
      simp only [List.mem_append, List.mem_cons, List.not_mem_nil, or_false] at hx
      rcases hx with (hx | rfl | rfl | rfl) | rfl | rfl
      · exact zx x hx
      · exact zp.1.mono (by omega)
      · exact zp.2.mono (by omega)
      · exact e1
      · exact e2
      · exact e3) (by simp; omega)
    refine ⟨ys, p15, p16, q1, by rw [q2]; simp; omega, ?_⟩
    have em : (xs ++ [p.1, p.2, (p.1 + p.2) / 2] ++ [p.1 - w, p.2 + w]).map fr = xs.map fr ++ [fr p.1, fr p.2, fr ((p.1 + p.2) / 2)] ++ [fr (p.1 - w), fr (p.2 + w)] := by simp
    rw [em] at e
    rw [List.map_cons, forL_cons (hgg _) (S' := S) ?_ , e]
    have hlx : (xs.map fr).length ≤ 900 := by rw [List.length_map]; omega
    rw [← hw.1] at f3 f4
    rw [← two_fr] at f2
    clear e ih em q1 q2 zx
    generalize fr ((p.1 + p.2) / 2) = a1 at *
    generalize fr (p.1 - w) = a2 at *
    generalize fr (p.2 + w) = a3 at *
    generalize fr (p.1 + p.2) = a0 at *
    generalize xs.map fr = X at *
    have h1 : X.length + 3 ≤ line := by show _ ≤ 16777216; omega
    have h2 : X.length + (2 + 3) ≤ line := by show _ ≤ 16777216; omega
    have h3 : X.length + 1 + 1 + 1 + 2 ≤ line := by show _ ≤ 16777216; omega
    have l3 : 3 ≤ line := by decide
    have l2 : 2 ≤ line := by decide
    have t1 : sx ⟨G.refs, G.orc (d + 9)⟩ 0 (.asg (.nm 14) (.bin .add (.var 14) (.lst [(.var 15), (.var 16), (.call 32 [(.call 28 [(.var 15), (.var 16)]), (.tup [(.cst (.int 2)), (.cst (.int 1))])])]))) [c0, c1, c2, c3, c4, c5, c6, c7, c8, c9, c10, c11, c12, c13, some (.d (.list X)), some (.d (fr p.1)), some (.d (fr p.2)), c17, c18, c19, c20] S = some (.nx [c0, c1, c2, c3, c4, c5, c6, c7, c8, c9, c10, c11, c12, c13, some (.d (.list (X ++ [fr p.1, fr p.2, a1]))), some (.d (fr p.1)), some (.d (fr p.2)), c17, c18, c19, c20] S) := by
      simp [runFn, sxs_cons, sxs_nil, sx_asg, sx_asgT, sx_alloc, sx_par, sx_if, sx_retV, ret_tup, evn_tup, ret_lst, evn_lst, ret_bin, evn_bin, ret_neg, evn_neg, ret_not, evn_not, ret_cmp, evn_cmp, ret_chain, evn_chain, ret_and, evn_and, ret_or, evn_or, ret_ite, evn_ite, ret_ix, evn_ix, ret_sl, evn_sl, ret_bf, evn_bf, ret_met, evn_met, ret_comp, evn_comp, ret_cst, evn_cst, ret_call, sx_expr, sx_aug, sx_brk, sx_cnt, ev_var, ev_cst, ev_tup, ev_lst, ev_bin, ev_neg, ev_not, ev_cmp, ev_chain, ev_and, ev_or, ev_ite, ev_ix, ev_sl, ev_back, ev_call, ev_bf, ev_met, evn_call, evns, evs, evp, evt, own, setAll, callC, derefs, isRef, op1, op2, dt, vd, vb, Cr.part, intD, deref, items_list, items_tuple, Cr.ixN, ix_tup, ix_list, ix_fr0, ix_fr1, ix_sp0, ix_sp1, ix_gsp0, ix_gsp1, items_fr, items_sp, items_rg, cmp_eqF, cmp_neF, binD, tru_int, tru_bool, bd_nm, bd_tup, bds_nil, bds_cons, frz, frzV, isNew, bfD, metS, metD, isLst, cmp_eqI, cmp_neI, cmp_ltI, cmp_leI, cmp_gtI, cmp_geI, cmp_isNone, cmp_isNoneT, cmp_notNone, cmp_notNoneT, cmp_notB, cmp_isB, cmp_neB, cmp_eqB, bd_sp, bd_gsp, bd_pkd, items_gsp, rf0, rf1, rf2, rf3, rf4, rf5, rf6, rf7, rf8, rf9, rf10, rf11, rf12, rf13, rf14, rf15, rf16, rf17, rf18, rf19, rf20, rf21, rf22, rf23, rf24, rf25, rf26, rf27, rf28, rf29, rf30, rf31, rf32, rf33, rf34, rf35, rf36, rf37, rf38, rf39, rf40, rf41, rf42, rf43, rf44, rf45, f1, f2, l3, l2, h1]
    have t2 : ∀ Y : List PyData, Y.length ≤ 903 → sx ⟨G.refs, G.orc (d + 9)⟩ 0 (.asg (.nm 14) (.bin .add (.var 14) (.lst [(.call 30 [(.var 15), (.tup [(.cst (.int 1)), (.cst (.int 97))])]), (.call 28 [(.var 16), (.tup [(.cst (.int 1)), (.cst (.int 97))])])]))) [c0, c1, c2, c3, c4, c5, c6, c7, c8, c9, c10, c11, c12, c13, some (.d (.list Y)), some (.d (fr p.1)), some (.d (fr p.2)), c17, c18, c19, c20] S = some (.nx [c0, c1, c2, c3, c4, c5, c6, c7, c8, c9, c10, c11, c12, c13, some (.d (.list (Y ++ [a2, a3]))), some (.d (fr p.1)), some (.d (fr p.2)), c17, c18, c19, c20] S) := by
      intro Y hY
      have h1 : Y.length + 2 ≤ line := by show _ ≤ 16777216; omega
      simp [runFn, sxs_cons, sxs_nil, sx_asg, sx_asgT, sx_alloc, sx_par, sx_if, sx_retV, ret_tup, evn_tup, ret_lst, evn_lst, ret_bin, evn_bin, ret_neg, evn_neg, ret_not, evn_not, ret_cmp, evn_cmp, ret_chain, evn_chain, ret_and, evn_and, ret_or, evn_or, ret_ite, evn_ite, ret_ix, evn_ix, ret_sl, evn_sl, ret_bf, evn_bf, ret_met, evn_met, ret_comp, evn_comp, ret_cst, evn_cst, ret_call, sx_expr, sx_aug, sx_brk, sx_cnt, ev_var, ev_cst, ev_tup, ev_lst, ev_bin, ev_neg, ev_not, ev_cmp, ev_chain, ev_and, ev_or, ev_ite, ev_ix, ev_sl, ev_back, ev_call, ev_bf, ev_met, evn_call, evns, evs, evp, evt, own, setAll, callC, derefs, isRef, op1, op2, dt, vd, vb, Cr.part, intD, deref, items_list, items_tuple, Cr.ixN, ix_tup, ix_list, ix_fr0, ix_fr1, ix_sp0, ix_sp1, ix_gsp0, ix_gsp1, items_fr, items_sp, items_rg, cmp_eqF, cmp_neF, binD, tru_int, tru_bool, bd_nm, bd_tup, bds_nil, bds_cons, frz, frzV, isNew, bfD, metS, metD, isLst, cmp_eqI, cmp_neI, cmp_ltI, cmp_leI, cmp_gtI, cmp_geI, cmp_isNone, cmp_isNoneT, cmp_notNone, cmp_notNoneT, cmp_notB, cmp_isB, cmp_neB, cmp_eqB, bd_sp, bd_gsp, bd_pkd, items_gsp, rf0, rf1, rf2, rf3, rf4, rf5, rf6, rf7, rf8, rf9, rf10, rf11, rf12, rf13, rf14, rf15, rf16, rf17, rf18, rf19, rf20, rf21, rf22, rf23, rf24, rf25, rf26, rf27, rf28, rf29, rf30, rf31, rf32, rf33, rf34, rf35, rf36, rf37, rf38, rf39, rf40, rf41, rf42, rf43, rf44, rf45, f3, f4, l2, h1]
    rw [bd_sp]
    simp only [bds_cons, bds_nil, bd_nm, Option.bind_some, List.set_cons_succ, List.set_cons_zero]
    unfold dB
    rw [sxs_cons, t1]
    simp only [Option.bind_some]
    rw [sxs_cons, t2 _ (by simp; omega)]
    simp only [Option.bind_some]
    rw [sxs_nil]
theorem do_u9 (d : Nat) (H : Sit r h gs) (hg4 : gs.length = 4) {xs : List Rat} (hx : xs.length = 4) (zx : ∀ x ∈ xs, sz 330 x) {S : Store} {c0 c1 c2 c3 c4 c5 c6 c7 c8 c9 c11 c12 c13 c15 c16 c17 c18 c19 c20 : Option PV} : ∃ (ys : List Rat) (p15 p16 : Option PV), (∀ y ∈ ys, sz 330 y) ∧ ys.length = 24 ∧ sx ⟨G.refs, G.orc (d + 9)⟩ 0 u9 [c0, c1, c2, c3, c4, c5, c6, c7, c8, c9, some (.d (.list (gs.map (rcD r h)))), c11, c12, c13, some (.d (.list (xs.map fr))), c15, c16, c17, c18, c19, c20] S = some (.nx [c0, c1, c2, c3, c4, c5, c6, c7, c8, c9, some (.d (.list (gs.map (rcD r h)))), c11, c12, c13, some (.d (.list (ys.map fr))), p15, p16, c17, c18, c19, c20] S) := by
  obtain ⟨ys, p15, p16, q1, q2, e⟩ := loop_d (c0 := c0) (c1 := c1) (c2 := c2) (c3 := c3) (c4 := c4) (c5 := c5) (c6 := c6) (c7 := c7) (c8 := c8) (c9 := c9) (c11 := c11) (c12 := c12) (c13 := c13) (c17 := c17) (c18 := c18) (c19 := c19) (c20 := c20) (c10 := some (.d (.list (gs.map (rcD r h))))) d (still (.d (.list (gs.map (rcD r h)))) (gs.map (rcD r h))) (fun _ => trivial) (S := S) (gs.map (reachR r h)) xs c15 c16 (fun p hp => by
    obtain ⟨g, hg, rfl⟩ := List.mem_map.mp hp
    exact H.szr hg) zx (by simp [hx, hg4])
  refine ⟨ys, p15, p16, q1, by rw [q2]; simp [hx, hg4], ?_⟩
  have he : evi ⟨G.refs, G.orc (d + 9)⟩ (.var 10) [c0, c1, c2, c3, c4, c5, c6, c7, c8, c9, some (.d (.list (gs.map (rcD r h)))), c11, c12, c13, some (.d (.list (xs.map fr))), c15, c16, c17, c18, c19, c20] S = some ((gs.map (rcD r h), still (.d (.list (gs.map (rcD r h)))) (gs.map (rcD r h))), S) := by
    simp [evi, itV, ev_var, deref, items_list]
  unfold u9
  rw [sx_for, he]
  simp only [Option.bind_some]
  have e2 := e
  rw [← rcs_eq] at e2
  exact e2
end
end Lw

/-! ## LwB5 -/
set_option Elab.async false
set_option linter.all false
set_option autoImplicit false
set_option maxRecDepth 100000
set_option maxHeartbeats 4000000
set_option exponentiation.threshold 100000
namespace Lw
open PySem PySem.Spec Cr
--NN 21
theorem bf_any {α : Type} (p : α → Bool) (xs : List α) : bfD .any [.list (xs.map fun x => PyData.bool (p x))] = some (.bool (xs.any p)) := by
  show (boolsOf _).map _ = _
  rw [boolsOf_map]
  simp
def plB (r : List Pt) (x : Rat) : Bool := decide (firstX r ≤ x) && decide (x ≤ lastX r)
def inB (p : Pt) (x : Rat) : Bool := !decide (x < p.1) && !decide (p.2 < x)
def triD (r : List Pt) (h : Rat) (g : Nat × Rat) : PyData := .tuple [gsp g, spD r g, rcD r h g]
theorem zip_tri (r : List Pt) (h : Rat) : ∀ gs : List (Nat × Rat), zipL3 (gs.map gsp) (gs.map (spD r)) (gs.map (rcD r h)) = gs.map (triD r h)
  | [] => rfl
  | g :: gs => by
    simp only [List.map_cons, zipL3, zip_tri r h gs]
    rfl
section
variable {r : List Pt} {h : Rat} {gs : List (Nat × Rat)}
theorem do_u10 (d : Nat) (H : Sit r h gs) {xs : List Rat} (hx : xs.length = 24) (zx : ∀ x ∈ xs, sz 330 x) {S : Store} {c0 c1 c2 c4 c5 c6 c7 c8 c9 c10 c11 c12 c13 c15 c16 c17 c18 c19 c20 : Option PV} : ∃ (ys : List Rat), ys.length ≤ 24 ∧ (∀ y ∈ ys, sz 330 y ∧ firstX r ≤ y ∧ y ≤ lastX r) ∧
    sx ⟨G.refs, G.orc (d + 9)⟩ 0 u10 [c0, c1, c2, some (.d (rg r)), c4, c5, c6, c7, c8, c9, c10, c11, c12, c13, some (.d (.list (xs.map fr))), c15, c16, c17, c18, c19, c20] S = some (.nx [c0, c1, c2, some (.d (rg r)), c4, c5, c6, c7, c8, c9, c10, c11, c12, c13, some (.d (.list (ys.map fr))), c15, c16, c17, c18, c19, c20] S) := by
  obtain ⟨u, hu⟩ : ∃ u, r.head? = some u := by
    cases hr : r with
    | nil => exact absurd hr H.r0
    | cons u _ => exact ⟨u, rfl⟩
  have hv := List.getLast?_eq_some_getLast H.r0
  have zu := H.zr u (List.mem_of_head? hu)
  have zv := H.zr _ (List.mem_of_getLast? hv)
  have eu := firstX_of hu
  have ev' := lastX_of hv
  obtain ⟨zs, q1, q2, q3, f⟩ := run_law_sorted (d + 6) zx (by omega) (by omega)
  refine ⟨zs.filter (plB r), by have := List.length_filter_le (plB r) zs; omega, fun y hy => ?_, ?_⟩
  · obtain ⟨h1, h2⟩ := List.mem_filter.mp hy
    unfold plB at h2
    simp only [Bool.and_eq_true, decide_eq_true_eq] at h2
    exact ⟨zx y ((q2 y).mp h1), h2.1, h2.2⟩
  · have he : evi ⟨G.refs, G.orc (d + 9)⟩ (.call 35 [(.var 14)]) [c0, c1, c2, some (.d (rg r)), c4, c5, c6, c7, c8, c9, c10, c11, c12, c13, some (.d (.list (xs.map fr))), c15, c16, c17, c18, c19, c20] S = some ((zs.map fr, still (.d (.list (zs.map fr))) (zs.map fr)), S) := by
      generalize xs.map fr = X at *
      generalize zs.map fr = Z at *
      simp [evi, itV, ev_call, evp, ev_var, callC, derefs, deref, rf0, rf1, rf2, rf3, rf4, rf5, rf6, rf7, rf8, rf9, rf10, rf11, rf12, rf13, rf14, rf15, rf16, rf17, rf18, rf19, rf20, rf21, rf22, rf23, rf24, rf25, rf26, rf27, rf28, rf29, rf30, rf31, rf32, rf33, rf34, rf35, rf36, rf37, rf38, rf39, rf40, rf41, rf42, rf43, rf44, rf45, f, isRef, items_list]
    have e : ev ⟨G.refs, G.orc (d + 9)⟩ (.comp [17] (.nm 17) (.call 35 [(.var 14)]) [(.call 18 [(.var 3), (.var 17)])] (.var 17)) [c0, c1, c2, some (.d (rg r)), c4, c5, c6, c7, c8, c9, c10, c11, c12, c13, some (.d (.list (xs.map fr))), c15, c16, c17, c18, c19, c20] S = some (.d (.list ((zs.filter (plB r)).map fr)), S) := by
      rw [← flatMap_if (plB r) fr zs]
      refine comp_map he trivial ?_ fun x hxm => ?_
      · rw [flatMap_if, List.length_map]
        have := List.length_filter_le (plB r) zs
        show _ ≤ 16777216
        omega
      · have f2 := run_is_place (d + 5) hu hv zu zv (zx x ((q2 x).mp hxm)) (by omega) (by omega)
        rw [← eu, ← ev'] at f2
        have f2 : G.orc (d + 9) 18 [.d (rg r), .d (fr x)] [] = some (.bool (plB r x), false, []) := f2
        generalize plB r x = b at *
        generalize xs.map fr = X at *
        cases b with
        | true => simp [turnC, eltC, wipeE, bd_nm, evt, ev_call, evp, ev_var, callC, derefs, deref, rf0, rf1, rf2, rf3, rf4, rf5, rf6, rf7, rf8, rf9, rf10, rf11, rf12, rf13, rf14, rf15, rf16, rf17, rf18, rf19, rf20, rf21, rf22, rf23, rf24, rf25, rf26, rf27, rf28, rf29, rf30, rf31, rf32, rf33, rf34, rf35, rf36, rf37, rf38, rf39, rf40, rf41, rf42, rf43, rf44, rf45, f2, dt, op1, tru_bool, isRef]
        | false => simp [turnC, eltC, wipeE, bd_nm, evt, ev_call, evp, ev_var, callC, derefs, deref, rf0, rf1, rf2, rf3, rf4, rf5, rf6, rf7, rf8, rf9, rf10, rf11, rf12, rf13, rf14, rf15, rf16, rf17, rf18, rf19, rf20, rf21, rf22, rf23, rf24, rf25, rf26, rf27, rf28, rf29, rf30, rf31, rf32, rf33, rf34, rf35, rf36, rf37, rf38, rf39, rf40, rf41, rf42, rf43, rf44, rf45, f2, dt, op1, tru_bool, isRef]
    unfold u10
    rw [sx_asg, e]
    simp
theorem z_step (d : Nat) (H : Sit r h gs) {g : Nat × Rat} (hg : g ∈ gs) {xs : List Rat} (hx : xs.length ≤ 24) (zx : ∀ x ∈ xs, sz 330 x ∧ firstX r ≤ x ∧ x ≤ lastX r) {S : Store} {c0 c1 c2 c5 c6 c7 c8 c9 c10 c13 c17 c18 c19 c20 : Option PV} :
    sxs ⟨G.refs, G.orc (d + 9)⟩ 0 zB [c0, c1, c2, some (.d (rg r)), some (.d (fr h)), c5, c6, c7, c8, c9, c10, some (.d (spD r g)), some (.d (gsp g)), c13, some (.d (.list (xs.map fr))), some (.d (fr (reachR r h g).1)), some (.d (fr (reachR r h g).2)), c17, c18, c19, c20] S = some (.nx [c0, c1, c2, some (.d (rg r)), some (.d (fr h)), c5, c6, c7, c8, c9, c10, some (.d (spD r g)), some (.d (gsp g)), c13, some (.d (.list (xs.map fr))), some (.d (fr (reachR r h g).1)), some (.d (fr (reachR r h g).2)), c17, some (.d (.list ((xs.filter (inB (reachR r h g))).map fr))), c19, c20] S) := by
  have l30 := H.l30
  have zp := H.szr hg
  have zs := sz_spot (H.ok g hg) H.zr
  have ef : xs.filter (inB (reachR r h g)) = xs.filter fun x => seesB r h x (spotR r g) := by
    refine List.filter_congr fun x hxm => ?_
    rw [H.sees hg (zx x hxm).2.1 (zx x hxm).2.2]
    unfold inB
    rw [Bool.eq_iff_iff]
    simp only [Bool.and_eq_true, Bool.not_eq_true', decide_eq_false_iff_not, decide_eq_true_eq]
    constructor
    · rintro ⟨a, b⟩
      exact ⟨by grind, by grind⟩
    · rintro ⟨a, b⟩
      exact ⟨by grind, by grind⟩
  have ce := cmp_ne_lfrs (xs.filter (inB (reachR r h g)))
  have e1 := comp_f ⟨G.refs, G.orc (d + 9)⟩ [c0, c1, c2, some (.d (rg r)), some (.d (fr h)), c5, c6, c7, c8, c9, c10, some (.d (spD r g)), some (.d (gsp g)), c13, some (.d (.list (xs.map fr))), some (.d (fr (reachR r h g).1)), some (.d (fr (reachR r h g).2)), c17, c18, c19, c20] (v := 14) (S := S) (xs := xs) (own := [17]) (p := .nm 17) (c := .and (.not (.call 31 [(.var 17), (.var 15)])) (.not (.call 31 [(.var 16), (.var 17)]))) (elt := .var 17) (b := inB (reachR r h g)) rfl (by omega) fun x hxm => by
    have f1 := run_law_below (d + 8) (zx x hxm).1 zp.1 (by omega) (by omega)
    have f2 := run_law_below (d + 8) zp.2 (zx x hxm).1 (by omega) (by omega)
    unfold inB
    generalize spD r g = s at *
    generalize gsp g = gd at *
    generalize xs.map fr = X at *
    generalize reachR r h g = p at *
    by_cases c1 : x < p.1
    · simp [turnC, eltC, wipeE, bd_nm, evt, ev_and, ev_not, ev_call, evp, ev_var, callC, derefs, deref, rf0, rf1, rf2, rf3, rf4, rf5, rf6, rf7, rf8, rf9, rf10, rf11, rf12, rf13, rf14, rf15, rf16, rf17, rf18, rf19, rf20, rf21, rf22, rf23, rf24, rf25, rf26, rf27, rf28, rf29, rf30, rf31, rf32, rf33, rf34, rf35, rf36, rf37, rf38, rf39, rf40, rf41, rf42, rf43, rf44, rf45, f1, f2, dt, op1, vb, tru_bool, isRef, c1]
    · by_cases c2 : p.2 < x
      · simp [turnC, eltC, wipeE, bd_nm, evt, ev_and, ev_not, ev_call, evp, ev_var, callC, derefs, deref, rf0, rf1, rf2, rf3, rf4, rf5, rf6, rf7, rf8, rf9, rf10, rf11, rf12, rf13, rf14, rf15, rf16, rf17, rf18, rf19, rf20, rf21, rf22, rf23, rf24, rf25, rf26, rf27, rf28, rf29, rf30, rf31, rf32, rf33, rf34, rf35, rf36, rf37, rf38, rf39, rf40, rf41, rf42, rf43, rf44, rf45, f1, f2, dt, op1, vb, tru_bool, isRef, c1, c2]
      · simp [turnC, eltC, wipeE, bd_nm, evt, ev_and, ev_not, ev_call, evp, ev_var, callC, derefs, deref, rf0, rf1, rf2, rf3, rf4, rf5, rf6, rf7, rf8, rf9, rf10, rf11, rf12, rf13, rf14, rf15, rf16, rf17, rf18, rf19, rf20, rf21, rf22, rf23, rf24, rf25, rf26, rf27, rf28, rf29, rf30, rf31, rf32, rf33, rf34, rf35, rf36, rf37, rf38, rf39, rf40, rf41, rf42, rf43, rf44, rf45, f1, f2, dt, op1, vb, tru_bool, isRef, c1, c2]
  have e2 := fun (o18 : Option PV) => comp_f ⟨G.refs, G.orc (d + 9)⟩ [c0, c1, c2, some (.d (rg r)), some (.d (fr h)), c5, c6, c7, c8, c9, c10, some (.d (spD r g)), some (.d (gsp g)), c13, some (.d (.list (xs.map fr))), some (.d (fr (reachR r h g).1)), some (.d (fr (reachR r h g).2)), c17, o18, c19, c20] (v := 14) (S := S) (xs := xs) (own := [17]) (p := .nm 17) (c := .call 38 [(.var 3), (.var 4), (.var 17), (.var 11)]) (elt := .var 17) (b := fun x => seesB r h x (spotR r g)) rfl (by omega) fun x hxm => by
    have f1 := run_law_sees (d + 3) H.zr zs H.zh (zx x hxm).1 (by omega)
    have f1 : G.orc (d + 9) 38 [.d (rg r), .d (fr h), .d (fr x), .d (spD r g)] [] = some (.bool (seesB r h x (spotR r g)), false, []) := f1
    generalize spD r g = s at *
    generalize gsp g = gd at *
    generalize xs.map fr = X at *
    generalize seesB r h x (spotR r g) = b at *
    cases b with
    | true => simp [turnC, eltC, wipeE, bd_nm, evt, ev_call, evp, ev_var, callC, derefs, deref, rf0, rf1, rf2, rf3, rf4, rf5, rf6, rf7, rf8, rf9, rf10, rf11, rf12, rf13, rf14, rf15, rf16, rf17, rf18, rf19, rf20, rf21, rf22, rf23, rf24, rf25, rf26, rf27, rf28, rf29, rf30, rf31, rf32, rf33, rf34, rf35, rf36, rf37, rf38, rf39, rf40, rf41, rf42, rf43, rf44, rf45, f1, dt, op1, vb, tru_bool, isRef]
    | false => simp [turnC, eltC, wipeE, bd_nm, evt, ev_call, evp, ev_var, callC, derefs, deref, rf0, rf1, rf2, rf3, rf4, rf5, rf6, rf7, rf8, rf9, rf10, rf11, rf12, rf13, rf14, rf15, rf16, rf17, rf18, rf19, rf20, rf21, rf22, rf23, rf24, rf25, rf26, rf27, rf28, rf29, rf30, rf31, rf32, rf33, rf34, rf35, rf36, rf37, rf38, rf39, rf40, rf41, rf42, rf43, rf44, rf45, f1, dt, op1, vb, tru_bool, isRef]
  have e3 := fun (o18 : Option PV) => comp_f ⟨G.refs, G.orc (d + 9)⟩ [c0, c1, c2, some (.d (rg r)), some (.d (fr h)), c5, c6, c7, c8, c9, c10, some (.d (spD r g)), some (.d (gsp g)), c13, some (.d (.list (xs.map fr))), some (.d (fr (reachR r h g).1)), some (.d (fr (reachR r h g).2)), c17, o18, c19, c20] (v := 14) (S := S) (xs := xs) (own := [17]) (p := .nm 17) (c := .call 21 [(.var 3), (.var 4), (.var 17), (.var 12)]) (elt := .var 17) (b := fun x => seesB r h x (spotR r g)) rfl (by omega) fun x hxm => by
    have f2 := run_sees (d + 1) (H.ok g hg).a (H.ok g hg).b H.zr (H.ok g hg).sz H.zh (zx x hxm).1 (by omega) (by omega)
    have f2 : G.orc (d + 9) 21 [.d (rg r), .d (fr h), .d (fr x), .d (gsp g)] [] = some (.bool (seesB r h x (spotR r g)), false, []) := f2
    generalize spD r g = s at *
    generalize gsp g = gd at *
    generalize xs.map fr = X at *
    generalize seesB r h x (spotR r g) = b at *
    cases b with
    | true => simp [turnC, eltC, wipeE, bd_nm, evt, ev_call, evp, ev_var, callC, derefs, deref, rf0, rf1, rf2, rf3, rf4, rf5, rf6, rf7, rf8, rf9, rf10, rf11, rf12, rf13, rf14, rf15, rf16, rf17, rf18, rf19, rf20, rf21, rf22, rf23, rf24, rf25, rf26, rf27, rf28, rf29, rf30, rf31, rf32, rf33, rf34, rf35, rf36, rf37, rf38, rf39, rf40, rf41, rf42, rf43, rf44, rf45, f2, dt, op1, vb, tru_bool, isRef]
    | false => simp [turnC, eltC, wipeE, bd_nm, evt, ev_call, evp, ev_var, callC, derefs, deref, rf0, rf1, rf2, rf3, rf4, rf5, rf6, rf7, rf8, rf9, rf10, rf11, rf12, rf13, rf14, rf15, rf16, rf17, rf18, rf19, rf20, rf21, rf22, rf23, rf24, rf25, rf26, rf27, rf28, rf29, rf30, rf31, rf32, rf33, rf34, rf35, rf36, rf37, rf38, rf39, rf40, rf41, rf42, rf43, rf44, rf45, f2, dt, op1, vb, tru_bool, isRef]
  have f3 := run_seen_by d (D := .list (xs.map fr)) (items_list _) (H.ok g hg) H.zr H.zh (fun x hxm => (zx x hxm).1) (by omega) (by omega) (by omega)
  rw [← ef] at e2 e3 f3
  have bl : ∀ L : List PyData, bfD .list [.tuple L] = some (.list L) := fun _ => rfl
  unfold zB
  rw [sxs_cons, sx_asg, e1]
  simp only [Option.map_some, Option.bind_some, List.set_cons_succ, List.set_cons_zero]
  clear e1 ef
  have e2 := e2 (some (.d (.list ((xs.filter (inB (reachR r h g))).map fr))))
  have e3 := e3 (some (.d (.list ((xs.filter (inB (reachR r h g))).map fr))))
  generalize spD r g = s at *
  generalize (xs.filter (inB (reachR r h g))).map fr = F at *
  generalize xs.map fr = X at *
  generalize gsp g = gd at *
  generalize reachR r h g = p at *
  have t2 : sx ⟨G.refs, G.orc (d + 9)⟩ 0 (.sif (.cmp .ne (.comp [17] (.nm 17) (.var 14) [(.call 38 [(.var 3), (.var 4), (.var 17), (.var 11)])] (.var 17)) (.var 18)) [.ret (.cst (.bool false))] []) [c0, c1, c2, some (.d (rg r)), some (.d (fr h)), c5, c6, c7, c8, c9, c10, some (.d s), some (.d gd), c13, some (.d (.list X)), some (.d (fr p.1)), some (.d (fr p.2)), c17, some (.d (.list F)), c19, c20] S = some (.nx [c0, c1, c2, some (.d (rg r)), some (.d (fr h)), c5, c6, c7, c8, c9, c10, some (.d s), some (.d gd), c13, some (.d (.list X)), some (.d (fr p.1)), some (.d (fr p.2)), c17, some (.d (.list F)), c19, c20] S) := by
    simp [runFn, sxs_cons, sxs_nil, sx_asg, sx_asgT, sx_alloc, sx_par, sx_if, sx_retV, ret_tup, evn_tup, ret_lst, evn_lst, ret_bin, evn_bin, ret_neg, evn_neg, ret_not, evn_not, ret_cmp, evn_cmp, ret_chain, evn_chain, ret_and, evn_and, ret_or, evn_or, ret_ite, evn_ite, ret_ix, evn_ix, ret_sl, evn_sl, ret_bf, evn_bf, ret_met, evn_met, ret_comp, evn_comp, ret_cst, evn_cst, ret_call, sx_expr, sx_aug, sx_brk, sx_cnt, ev_var, ev_cst, ev_tup, ev_lst, ev_bin, ev_neg, ev_not, ev_cmp, ev_chain, ev_and, ev_or, ev_ite, ev_ix, ev_sl, ev_back, ev_call, ev_bf, ev_met, evn_call, evns, evs, evp, evt, own, setAll, callC, derefs, isRef, op1, op2, dt, vd, vb, Cr.part, intD, deref, items_list, items_tuple, Cr.ixN, ix_tup, ix_list, ix_fr0, ix_fr1, ix_sp0, ix_sp1, ix_gsp0, ix_gsp1, items_fr, items_sp, items_rg, cmp_eqF, cmp_neF, binD, tru_int, tru_bool, bd_nm, bd_tup, bds_nil, bds_cons, frz, frzV, isNew, bfD, metS, metD, isLst, cmp_eqI, cmp_neI, cmp_ltI, cmp_leI, cmp_gtI, cmp_geI, cmp_isNone, cmp_isNoneT, cmp_notNone, cmp_notNoneT, cmp_notB, cmp_isB, cmp_neB, cmp_eqB, bd_sp, bd_gsp, bd_pkd, items_gsp, rf0, rf1, rf2, rf3, rf4, rf5, rf6, rf7, rf8, rf9, rf10, rf11, rf12, rf13, rf14, rf15, rf16, rf17, rf18, rf19, rf20, rf21, rf22, rf23, rf24, rf25, rf26, rf27, rf28, rf29, rf30, rf31, rf32, rf33, rf34, rf35, rf36, rf37, rf38, rf39, rf40, rf41, rf42, rf43, rf44, rf45, e2, ce]
  have t3 : sx ⟨G.refs, G.orc (d + 9)⟩ 0 (.sif (.cmp .ne (.bf .list [(.call 22 [(.var 3), (.var 4), (.var 14), (.var 12)])]) (.var 18)) [.ret (.cst (.bool false))] []) [c0, c1, c2, some (.d (rg r)), some (.d (fr h)), c5, c6, c7, c8, c9, c10, some (.d s), some (.d gd), c13, some (.d (.list X)), some (.d (fr p.1)), some (.d (fr p.2)), c17, some (.d (.list F)), c19, c20] S = some (.nx [c0, c1, c2, some (.d (rg r)), some (.d (fr h)), c5, c6, c7, c8, c9, c10, some (.d s), some (.d gd), c13, some (.d (.list X)), some (.d (fr p.1)), some (.d (fr p.2)), c17, some (.d (.list F)), c19, c20] S) := by
    simp [runFn, sxs_cons, sxs_nil, sx_asg, sx_asgT, sx_alloc, sx_par, sx_if, sx_retV, ret_tup, evn_tup, ret_lst, evn_lst, ret_bin, evn_bin, ret_neg, evn_neg, ret_not, evn_not, ret_cmp, evn_cmp, ret_chain, evn_chain, ret_and, evn_and, ret_or, evn_or, ret_ite, evn_ite, ret_ix, evn_ix, ret_sl, evn_sl, ret_bf, evn_bf, ret_met, evn_met, ret_comp, evn_comp, ret_cst, evn_cst, ret_call, sx_expr, sx_aug, sx_brk, sx_cnt, ev_var, ev_cst, ev_tup, ev_lst, ev_bin, ev_neg, ev_not, ev_cmp, ev_chain, ev_and, ev_or, ev_ite, ev_ix, ev_sl, ev_back, ev_call, ev_bf, ev_met, evn_call, evns, evs, evp, evt, own, setAll, callC, derefs, isRef, op1, op2, dt, vd, vb, Cr.part, intD, deref, items_list, items_tuple, Cr.ixN, ix_tup, ix_list, ix_fr0, ix_fr1, ix_sp0, ix_sp1, ix_gsp0, ix_gsp1, items_fr, items_sp, items_rg, cmp_eqF, cmp_neF, binD, tru_int, tru_bool, bd_nm, bd_tup, bds_nil, bds_cons, frz, frzV, isNew, bfD, metS, metD, isLst, cmp_eqI, cmp_neI, cmp_ltI, cmp_leI, cmp_gtI, cmp_geI, cmp_isNone, cmp_isNoneT, cmp_notNone, cmp_notNoneT, cmp_notB, cmp_isB, cmp_neB, cmp_eqB, bd_sp, bd_gsp, bd_pkd, items_gsp, -bfD, rf0, rf1, rf2, rf3, rf4, rf5, rf6, rf7, rf8, rf9, rf10, rf11, rf12, rf13, rf14, rf15, rf16, rf17, rf18, rf19, rf20, rf21, rf22, rf23, rf24, rf25, rf26, rf27, rf28, rf29, rf30, rf31, rf32, rf33, rf34, rf35, rf36, rf37, rf38, rf39, rf40, rf41, rf42, rf43, rf44, rf45, f3, bl, ce]
  have t4 : sx ⟨G.refs, G.orc (d + 9)⟩ 0 (.sif (.cmp .ne (.comp [17] (.nm 17) (.var 14) [(.call 21 [(.var 3), (.var 4), (.var 17), (.var 12)])] (.var 17)) (.var 18)) [.ret (.cst (.bool false))] []) [c0, c1, c2, some (.d (rg r)), some (.d (fr h)), c5, c6, c7, c8, c9, c10, some (.d s), some (.d gd), c13, some (.d (.list X)), some (.d (fr p.1)), some (.d (fr p.2)), c17, some (.d (.list F)), c19, c20] S = some (.nx [c0, c1, c2, some (.d (rg r)), some (.d (fr h)), c5, c6, c7, c8, c9, c10, some (.d s), some (.d gd), c13, some (.d (.list X)), some (.d (fr p.1)), some (.d (fr p.2)), c17, some (.d (.list F)), c19, c20] S) := by
    simp [runFn, sxs_cons, sxs_nil, sx_asg, sx_asgT, sx_alloc, sx_par, sx_if, sx_retV, ret_tup, evn_tup, ret_lst, evn_lst, ret_bin, evn_bin, ret_neg, evn_neg, ret_not, evn_not, ret_cmp, evn_cmp, ret_chain, evn_chain, ret_and, evn_and, ret_or, evn_or, ret_ite, evn_ite, ret_ix, evn_ix, ret_sl, evn_sl, ret_bf, evn_bf, ret_met, evn_met, ret_comp, evn_comp, ret_cst, evn_cst, ret_call, sx_expr, sx_aug, sx_brk, sx_cnt, ev_var, ev_cst, ev_tup, ev_lst, ev_bin, ev_neg, ev_not, ev_cmp, ev_chain, ev_and, ev_or, ev_ite, ev_ix, ev_sl, ev_back, ev_call, ev_bf, ev_met, evn_call, evns, evs, evp, evt, own, setAll, callC, derefs, isRef, op1, op2, dt, vd, vb, Cr.part, intD, deref, items_list, items_tuple, Cr.ixN, ix_tup, ix_list, ix_fr0, ix_fr1, ix_sp0, ix_sp1, ix_gsp0, ix_gsp1, items_fr, items_sp, items_rg, cmp_eqF, cmp_neF, binD, tru_int, tru_bool, bd_nm, bd_tup, bds_nil, bds_cons, frz, frzV, isNew, bfD, metS, metD, isLst, cmp_eqI, cmp_neI, cmp_ltI, cmp_leI, cmp_gtI, cmp_geI, cmp_isNone, cmp_isNoneT, cmp_notNone, cmp_notNoneT, cmp_notB, cmp_isB, cmp_neB, cmp_eqB, bd_sp, bd_gsp, bd_pkd, items_gsp, rf0, rf1, rf2, rf3, rf4, rf5, rf6, rf7, rf8, rf9, rf10, rf11, rf12, rf13, rf14, rf15, rf16, rf17, rf18, rf19, rf20, rf21, rf22, rf23, rf24, rf25, rf26, rf27, rf28, rf29, rf30, rf31, rf32, rf33, rf34, rf35, rf36, rf37, rf38, rf39, rf40, rf41, rf42, rf43, rf44, rf45, e3, ce]
  rw [sxs_cons, t2]
  simp only [Option.bind_some]
  rw [sxs_cons, t3]
  simp only [Option.bind_some]
  rw [sxs_cons, t4]
  simp only [Option.bind_some]
  rw [sxs_nil]
theorem loop_z (d : Nat) (H : Sit r h gs) (gg : Store → Prop) (hgg : ∀ S, gg S) {xs : List Rat} (hx : xs.length ≤ 24) (zx : ∀ x ∈ xs, sz 330 x ∧ firstX r ≤ x ∧ x ≤ lastX r) {S : Store} {c0 c1 c2 c5 c6 c7 c8 c9 c10 c13 c17 c19 c20 : Option PV} : ∀ (ls : List (Nat × Rat)) (o11 o12 o15 o16 o18 : Option PV), (∀ g ∈ ls, g ∈ gs) →
    ∃ (p11 p12 p15 p16 p18 : Option PV), forL gg (fun (y : PyData) (ρ : Ev) (S : Store) => (bd (.tup [(.nm 12), (.nm 11), (.tup [(.nm 15), (.nm 16)])]) y ρ).bind fun ρ1 => sxs ⟨G.refs, G.orc (d + 9)⟩ 0 zB ρ1 S) (ls.map (triD r h))
      [c0, c1, c2, some (.d (rg r)), some (.d (fr h)), c5, c6, c7, c8, c9, c10, o11, o12, c13, some (.d (.list (xs.map fr))), o15, o16, c17, o18, c19, c20] S = some (.nx [c0, c1, c2, some (.d (rg r)), some (.d (fr h)), c5, c6, c7, c8, c9, c10, p11, p12, c13, some (.d (.list (xs.map fr))), p15, p16, c17, p18, c19, c20] S) := by
  intro ls
  induction ls with
  | nil => intro o11 o12 o15 o16 o18 _; exact ⟨o11, o12, o15, o16, o18, by rw [List.map_nil, forL_nil (hgg _)]⟩
  | cons g ls ih =>
    intro o11 o12 o15 o16 o18 hm
    obtain ⟨p11, p12, p15, p16, p18, e⟩ := ih (some (.d (spD r g))) (some (.d (gsp g))) (some (.d (fr (reachR r h g).1))) (some (.d (fr (reachR r h g).2))) (some (.d (.list ((xs.filter (inB (reachR r h g))).map fr)))) fun y hy => hm y (List.mem_cons_of_mem _ hy)
    refine ⟨p11, p12, p15, p16, p18, ?_⟩
    rw [List.map_cons, forL_cons (hgg _) (S' := S) ?_ , e]
    have eb : ∀ ρ : Ev, bd (.tup [(.nm 12), (.nm 11), (.tup [(.nm 15), (.nm 16)])]) (triD r h g) ρ = some ((((ρ.set 12 (some (.d (gsp g)))).set 11 (some (.d (spD r g)))).set 15 (some (.d (fr (reachR r h g).1)))).set 16 (some (.d (fr (reachR r h g).2)))) := by
      intro ρ
      unfold triD
      rw [bd_tup, bds_cons, bd_nm]
      simp only [Option.bind_some]
      rw [bds_cons, bd_nm]
      simp only [Option.bind_some]
      rw [bds_cons]
      unfold rcD
      rw [bd_sp]
      simp [bds_cons, bds_nil, bd_nm]
    rw [eb]
    simp only [Option.bind_some, List.set_cons_succ, List.set_cons_zero]
    exact z_step (c0 := c0) (c1 := c1) (c2 := c2) (c5 := c5) (c6 := c6) (c7 := c7) (c8 := c8) (c9 := c9) (c10 := c10) (c13 := c13) (c17 := c17) (c19 := c19) (c20 := c20) (c18 := o18) d H (hm g List.mem_cons_self) hx zx
theorem do_u11 (d : Nat) (H : Sit r h gs) {xs : List Rat} (hx : xs.length ≤ 24) (zx : ∀ x ∈ xs, sz 330 x ∧ firstX r ≤ x ∧ x ≤ lastX r) {S : Store} {c0 c1 c2 c6 c8 c9 c11 c12 c13 c15 c16 c17 c18 c19 c20 : Option PV} : ∃ (p11 p12 p15 p16 p18 : Option PV),
    sx ⟨G.refs, G.orc (d + 9)⟩ 0 u11 [c0, c1, c2, some (.d (rg r)), some (.d (fr h)), some (.d (.list (gs.map gsp))), c6, some (.d (.list (gs.map (spD r)))), c8, c9, some (.d (.list (gs.map (rcD r h)))), c11, c12, c13, some (.d (.list (xs.map fr))), c15, c16, c17, c18, c19, c20] S = some (.nx [c0, c1, c2, some (.d (rg r)), some (.d (fr h)), some (.d (.list (gs.map gsp))), c6, some (.d (.list (gs.map (spD r)))), c8, c9, some (.d (.list (gs.map (rcD r h)))), p11, p12, c13, some (.d (.list (xs.map fr))), p15, p16, c17, p18, c19, c20] S) := by
  obtain ⟨p11, p12, p15, p16, p18, e⟩ := loop_z (c0 := c0) (c1 := c1) (c2 := c2) (c6 := c6) (c8 := c8) (c9 := c9) (c13 := c13) (c17 := c17) (c19 := c19) (c20 := c20) (c5 := some (.d (.list (gs.map gsp)))) (c7 := some (.d (.list (gs.map (spD r))))) (c10 := some (.d (.list (gs.map (rcD r h))))) d H (fun S => still (.d (.list (gs.map gsp))) (gs.map gsp) S ∧ still (.d (.list (gs.map (spD r)))) (gs.map (spD r)) S ∧ still (.d (.list (gs.map (rcD r h)))) (gs.map (rcD r h)) S) (fun _ => ⟨trivial, trivial, trivial⟩) hx zx (S := S) gs c11 c12 c15 c16 c18 (fun g hg => hg)
  refine ⟨p11, p12, p15, p16, p18, ?_⟩
  have he : evi ⟨G.refs, G.orc (d + 9)⟩ (.zip3 (.var 5) (.var 7) (.var 10)) [c0, c1, c2, some (.d (rg r)), some (.d (fr h)), some (.d (.list (gs.map gsp))), c6, some (.d (.list (gs.map (spD r)))), c8, c9, some (.d (.list (gs.map (rcD r h)))), c11, c12, c13, some (.d (.list (xs.map fr))), c15, c16, c17, c18, c19, c20] S = some ((gs.map (triD r h), fun S => still (.d (.list (gs.map gsp))) (gs.map gsp) S ∧ still (.d (.list (gs.map (spD r)))) (gs.map (spD r)) S ∧ still (.d (.list (gs.map (rcD r h)))) (gs.map (rcD r h)) S), S) := by
    rw [← zip_tri]
    simp [evi, itZ3, ev_var, deref, zipD3]
  unfold u11
  rw [sx_for, he]
  exact e
theorem rs_cons (H : Sit r h gs) : ∃ p ps, gs.map (reachR r h) = p :: ps := by
  cases hgs : gs with
  | nil => exact absurd hgs H.ne
  | cons g gs => exact ⟨_, _, rfl⟩
theorem do_u12 (d : Nat) (H : Sit r h gs) {S : Store} {c0 c1 c2 c3 c4 c5 c6 c7 c8 c9 c11 c12 c13 c14 c15 c16 c17 c18 c19 c20 : Option PV} : sx ⟨G.refs, G.orc (d + 9)⟩ 0 u12 [c0, c1, c2, c3, c4, c5, c6, c7, c8, c9, some (.d (.list (gs.map (rcD r h)))), c11, c12, c13, c14, c15, c16, c17, c18, c19, c20] S = some (.nx [c0, c1, c2, c3, c4, c5, c6, c7, c8, c9, some (.d (.list (gs.map (rcD r h)))), c11, c12, c13, c14, some (.d (fr (maxL ((gs.map (reachR r h)).map (·.1))))), some (.d (fr (minL ((gs.map (reachR r h)).map (·.2))))), c17, c18, c19, c20] S) := by
  obtain ⟨p, ps, ep⟩ := rs_cons H
  have e1 := comp_e ⟨G.refs, G.orc (d + 9)⟩ [c0, c1, c2, c3, c4, c5, c6, c7, c8, c9, some (.d (.list (gs.map (rcD r h)))), c11, c12, c13, c14, c15, c16, c17, c18, c19, c20] (v := 10) (S := S) (xs := gs) (d := rcD r h) (w := fun g => fr (reachR r h g).1) (own := [13]) (p := .nm 13) (elt := .ix (.var 13) (.cst (.int 0))) rfl H.few fun g hg => by
    have i0 : ixD (rcD r h g) (.int 0) = some (fr (reachR r h g).1) := rfl
    generalize gs.map (rcD r h) = L at *
    generalize rcD r h g = p at *
    simp [turnC, eltC, wipeE, bd_nm, evt, ev_ix, ev_var, ev_cst, deref, dt, vd, op2, i0]
  have e2 := comp_e ⟨G.refs, G.orc (d + 9)⟩ [c0, c1, c2, c3, c4, c5, c6, c7, c8, c9, some (.d (.list (gs.map (rcD r h)))), c11, c12, c13, c14, c15, c16, c17, c18, c19, c20] (v := 10) (S := S) (xs := gs) (d := rcD r h) (w := fun g => fr (reachR r h g).2) (own := [13]) (p := .nm 13) (elt := .ix (.var 13) (.cst (.int 1))) rfl H.few fun g hg => by
    have i0 : ixD (rcD r h g) (.int 1) = some (fr (reachR r h g).2) := rfl
    generalize gs.map (rcD r h) = L at *
    generalize rcD r h g = p at *
    simp [turnC, eltC, wipeE, bd_nm, evt, ev_ix, ev_var, ev_cst, deref, dt, vd, op2, i0]
  have m1 : gs.map (fun g => fr (reachR r h g).1) = ((gs.map (reachR r h)).map (·.1)).map fr := by rw [List.map_map, List.map_map]; rfl
  have m2 : gs.map (fun g => fr (reachR r h g).2) = ((gs.map (reachR r h)).map (·.2)).map fr := by rw [List.map_map, List.map_map]; rfl
  have z1 : ∀ y ∈ (gs.map (reachR r h)).map (·.1), sz 158 y := fun y hy => by
    obtain ⟨q, hq, rfl⟩ := List.mem_map.mp hy
    obtain ⟨g, hg, rfl⟩ := List.mem_map.mp hq
    exact (H.szr hg).1
  have z2 : ∀ y ∈ (gs.map (reachR r h)).map (·.2), sz 158 y := fun y hy => by
    obtain ⟨q, hq, rfl⟩ := List.mem_map.mp hy
    obtain ⟨g, hg, rfl⟩ := List.mem_map.mp hq
    exact (H.szr hg).2
  rw [m1] at e1
  rw [m2] at e2
  rw [ep] at e1 e2 z1 z2 ⊢
  simp only [List.map_cons] at z1 z2
  have f1 := run_law_most (d + 7) (n := 158) (D := .list (((p :: ps).map (·.1)).map fr)) (x := p.1) (xs := ps.map (·.1)) rfl z1 (by omega)
  have f2 := run_law_least (d + 7) (n := 158) (D := .list (((p :: ps).map (·.2)).map fr)) (x := p.2) (xs := ps.map (·.2)) rfl z2 (by omega)
  have f1 : G.orc (d + 9) 34 [.d (.list (((p :: ps).map (·.1)).map fr))] [] = some (fr (maxL ((p :: ps).map (·.1))), false, []) := f1
  have f2 : G.orc (d + 9) 33 [.d (.list (((p :: ps).map (·.2)).map fr))] [] = some (fr (minL ((p :: ps).map (·.2))), false, []) := f2
  clear m1 m2 z1 z2
  generalize ((p :: ps).map (·.1)).map fr = L1 at *
  generalize ((p :: ps).map (·.2)).map fr = L2 at *
  generalize maxL ((p :: ps).map (·.1)) = A at *
  generalize minL ((p :: ps).map (·.2)) = B at *
  generalize gs.map (rcD r h) = L at *
  simp [u12, runFn, sxs_cons, sxs_nil, sx_asg, sx_asgT, sx_alloc, sx_par, sx_if, sx_retV, ret_tup, evn_tup, ret_lst, evn_lst, ret_bin, evn_bin, ret_neg, evn_neg, ret_not, evn_not, ret_cmp, evn_cmp, ret_chain, evn_chain, ret_and, evn_and, ret_or, evn_or, ret_ite, evn_ite, ret_ix, evn_ix, ret_sl, evn_sl, ret_bf, evn_bf, ret_met, evn_met, ret_comp, evn_comp, ret_cst, evn_cst, ret_call, sx_expr, sx_aug, sx_brk, sx_cnt, ev_var, ev_cst, ev_tup, ev_lst, ev_bin, ev_neg, ev_not, ev_cmp, ev_chain, ev_and, ev_or, ev_ite, ev_ix, ev_sl, ev_back, ev_call, ev_bf, ev_met, evn_call, evns, evs, evp, evt, own, setAll, callC, derefs, isRef, op1, op2, dt, vd, vb, Cr.part, intD, deref, items_list, items_tuple, Cr.ixN, ix_tup, ix_list, ix_fr0, ix_fr1, ix_sp0, ix_sp1, ix_gsp0, ix_gsp1, items_fr, items_sp, items_rg, cmp_eqF, cmp_neF, binD, tru_int, tru_bool, bd_nm, bd_tup, bds_nil, bds_cons, frz, frzV, isNew, bfD, metS, metD, isLst, cmp_eqI, cmp_neI, cmp_ltI, cmp_leI, cmp_gtI, cmp_geI, cmp_isNone, cmp_isNoneT, cmp_notNone, cmp_notNoneT, cmp_notB, cmp_isB, cmp_neB, cmp_eqB, bd_sp, bd_gsp, bd_pkd, items_gsp, rf0, rf1, rf2, rf3, rf4, rf5, rf6, rf7, rf8, rf9, rf10, rf11, rf12, rf13, rf14, rf15, rf16, rf17, rf18, rf19, rf20, rf21, rf22, rf23, rf24, rf25, rf26, rf27, rf28, rf29, rf30, rf31, rf32, rf33, rf34, rf35, rf36, rf37, rf38, rf39, rf40, rf41, rf42, rf43, rf44, rf45, e1, e2, f1, f2, line]
theorem do_u13 (d : Nat) (H : Sit r h gs) {S : Store} {c0 c1 c2 c6 c7 c8 c9 c10 c11 c12 c13 c14 c17 c18 c19 c20 : Option PV} : sx ⟨G.refs, G.orc (d + 9)⟩ 0 u13 [c0, c1, c2, some (.d (rg r)), some (.d (fr h)), some (.d (.list (gs.map gsp))), c6, c7, c8, c9, c10, c11, c12, c13, c14, some (.d (fr (maxL ((gs.map (reachR r h)).map (·.1))))), some (.d (fr (minL ((gs.map (reachR r h)).map (·.2))))), c17, c18, c19, c20] S = some (.nx [c0, c1, c2, some (.d (rg r)), some (.d (fr h)), some (.d (.list (gs.map gsp))), c6, c7, c8, c9, c10, c11, c12, c13, c14, some (.d (fr (maxL ((gs.map (reachR r h)).map (·.1))))), some (.d (fr (minL ((gs.map (reachR r h)).map (·.2))))), c17, c18, c19, c20] S) := by
  have l30 := H.l30
  have few := H.few
  obtain ⟨g0, gs', eg⟩ : ∃ g0 gs', gs = g0 :: gs' := by
    cases hgs : gs with
    | nil => exact absurd hgs H.ne
    | cons g gs => exact ⟨g, gs, rfl⟩
  have f : G.orc (d + 9) 25 [.d (rg r), .d (fr h), .d (.list (gs.map gsp))] [] = some (sp (maxL ((gs.map (reachR r h)).map (·.1)), minL ((gs.map (reachR r h)).map (·.2))), false, []) := by
    have hok := H.ok
    have hz := fun g hg => H.szr (g := g) hg
    rw [eg] at hok hz few ⊢
    exact run_common_reach d (D := .list ((g0 :: gs').map gsp)) (items_list _) hok H.zr H.zh (by omega) few (by omega) fun g hg => ⟨(hz g hg).1.mono (by omega), (hz g hg).2.mono (by omega)⟩
  have c : cmpD .ne (sp (maxL ((gs.map (reachR r h)).map (·.1)), minL ((gs.map (reachR r h)).map (·.2)))) (sp (maxL ((gs.map (reachR r h)).map (·.1)), minL ((gs.map (reachR r h)).map (·.2)))) = some false := by rw [cmp_neP]; simp
  generalize maxL ((gs.map (reachR r h)).map (·.1)) = A at *
  generalize minL ((gs.map (reachR r h)).map (·.2)) = B at *
  generalize gs.map gsp = L at *
  have c : cmpD .ne (sp (A, B)) (.tuple [fr A, fr B]) = some false := c
  simp [u13, runFn, sxs_cons, sxs_nil, sx_asg, sx_asgT, sx_alloc, sx_par, sx_if, sx_retV, ret_tup, evn_tup, ret_lst, evn_lst, ret_bin, evn_bin, ret_neg, evn_neg, ret_not, evn_not, ret_cmp, evn_cmp, ret_chain, evn_chain, ret_and, evn_and, ret_or, evn_or, ret_ite, evn_ite, ret_ix, evn_ix, ret_sl, evn_sl, ret_bf, evn_bf, ret_met, evn_met, ret_comp, evn_comp, ret_cst, evn_cst, ret_call, sx_expr, sx_aug, sx_brk, sx_cnt, ev_var, ev_cst, ev_tup, ev_lst, ev_bin, ev_neg, ev_not, ev_cmp, ev_chain, ev_and, ev_or, ev_ite, ev_ix, ev_sl, ev_back, ev_call, ev_bf, ev_met, evn_call, evns, evs, evp, evt, own, setAll, callC, derefs, isRef, op1, op2, dt, vd, vb, Cr.part, intD, deref, items_list, items_tuple, Cr.ixN, ix_tup, ix_list, ix_fr0, ix_fr1, ix_sp0, ix_sp1, ix_gsp0, ix_gsp1, items_fr, items_sp, items_rg, cmp_eqF, cmp_neF, binD, tru_int, tru_bool, bd_nm, bd_tup, bds_nil, bds_cons, frz, frzV, isNew, bfD, metS, metD, isLst, cmp_eqI, cmp_neI, cmp_ltI, cmp_leI, cmp_gtI, cmp_geI, cmp_isNone, cmp_isNoneT, cmp_notNone, cmp_notNoneT, cmp_notB, cmp_isB, cmp_neB, cmp_eqB, bd_sp, bd_gsp, bd_pkd, items_gsp, rf0, rf1, rf2, rf3, rf4, rf5, rf6, rf7, rf8, rf9, rf10, rf11, rf12, rf13, rf14, rf15, rf16, rf17, rf18, rf19, rf20, rf21, rf22, rf23, rf24, rf25, rf26, rf27, rf28, rf29, rf30, rf31, rf32, rf33, rf34, rf35, rf36, rf37, rf38, rf39, rf40, rf41, rf42, rf43, rf44, rf45, f, c, line]
theorem do_u14 (d : Nat) (H : Sit r h gs) {S : Store} {c0 c1 c2 c3 c4 c5 c6 c7 c8 c9 c11 c12 c13 c14 c15 c16 c17 c18 c19 c20 : Option PV} : sx ⟨G.refs, G.orc (d + 9)⟩ 0 u14 [c0, c1, c2, c3, c4, c5, c6, c7, c8, c9, some (.d (.list (gs.map (rcD r h)))), c11, c12, c13, c14, c15, c16, c17, c18, c19, c20] S = some (.nx [c0, c1, c2, c3, c4, c5, c6, c7, c8, c9, some (.d (.list (gs.map (rcD r h)))), c11, c12, c13, c14, c15, c16, c17, c18, some (.d (.list (gs.map fun g => .bool (gs.any fun g' => decide ((reachR r h g').2 < (reachR r h g).1))))), c20] S) := by
  have e1 := comp_e ⟨G.refs, G.orc (d + 9)⟩ [c0, c1, c2, c3, c4, c5, c6, c7, c8, c9, some (.d (.list (gs.map (rcD r h)))), c11, c12, c13, c14, c15, c16, c17, c18, c19, c20] (v := 10) (S := S) (xs := gs) (d := rcD r h) (w := fun g => .bool (gs.any fun g' => decide ((reachR r h g').2 < (reachR r h g).1))) (own := [13]) (p := .nm 13) (elt := .bf .any [(.comp [20] (.nm 20) (.var 10) [] (.call 31 [(.ix (.var 20) (.cst (.int 1))), (.ix (.var 13) (.cst (.int 0)))]))]) rfl H.few fun g hg => by
    have e2 := comp_e ⟨G.refs, G.orc (d + 9)⟩ [c0, c1, c2, c3, c4, c5, c6, c7, c8, c9, some (.d (.list (gs.map (rcD r h)))), c11, c12, some (.d (rcD r h g)), c14, c15, c16, c17, c18, c19, c20] (v := 10) (S := S) (xs := gs) (d := rcD r h) (w := fun g' => .bool (decide ((reachR r h g').2 < (reachR r h g).1))) (own := [20]) (p := .nm 20) (elt := .call 31 [(.ix (.var 20) (.cst (.int 1))), (.ix (.var 13) (.cst (.int 0)))]) rfl H.few fun g' hg' => by
      have f := run_law_below (d + 8) (H.szr hg').2 (H.szr hg).1 (by omega) (by omega)
      have i0 : ixD (rcD r h g) (.int 0) = some (fr (reachR r h g).1) := rfl
      have i1 : ixD (rcD r h g') (.int 1) = some (fr (reachR r h g').2) := rfl
      generalize gs.map (rcD r h) = L at *
      generalize rcD r h g = p at *
      generalize rcD r h g' = p' at *
      simp [turnC, eltC, wipeE, bd_nm, evt, ev_call, evp, ev_ix, ev_var, ev_cst, callC, derefs, deref, dt, vd, op2, i0, i1, rf0, rf1, rf2, rf3, rf4, rf5, rf6, rf7, rf8, rf9, rf10, rf11, rf12, rf13, rf14, rf15, rf16, rf17, rf18, rf19, rf20, rf21, rf22, rf23, rf24, rf25, rf26, rf27, rf28, rf29, rf30, rf31, rf32, rf33, rf34, rf35, rf36, rf37, rf38, rf39, rf40, rf41, rf42, rf43, rf44, rf45, f, isRef]
    have ba := bf_any (fun g' => decide ((reachR r h g').2 < (reachR r h g).1)) gs
    generalize (gs.any fun g' => decide ((reachR r h g').2 < (reachR r h g).1)) = b at *
    generalize (gs.map fun g' => PyData.bool (decide ((reachR r h g').2 < (reachR r h g).1))) = L2 at *
    generalize gs.map (rcD r h) = L at *
    generalize rcD r h g = p at *
    simp [turnC, eltC, wipeE, bd_nm, evt, ev_bf, evp, e2, derefs, deref, ba, dt]
  unfold u14
  rw [sx_asg, e1]
  simp
theorem low_high (H : Sit r h gs) : decide (minL ((gs.map (reachR r h)).map (·.2)) < maxL ((gs.map (reachR r h)).map (·.1))) = gs.any fun g => gs.any fun g' => decide ((reachR r h g').2 < (reachR r h g).1) := by
  have n1 : (gs.map (reachR r h)).map (·.1) ≠ [] := by simpa using H.ne
  have n2 : (gs.map (reachR r h)).map (·.2) ≠ [] := by simpa using H.ne
  rw [Bool.eq_iff_iff, decide_eq_true_eq, List.any_eq_true]
  constructor
  · intro hlt
    obtain ⟨p, hp, e1⟩ := List.mem_map.mp (maxL_mem n1)
    obtain ⟨g, hg, rfl⟩ := List.mem_map.mp hp
    obtain ⟨q, hq, e2⟩ := List.mem_map.mp (minL_mem n2)
    obtain ⟨g', hg', rfl⟩ := List.mem_map.mp hq
    refine ⟨g, hg, List.any_eq_true.mpr ⟨g', hg', ?_⟩⟩
    rw [decide_eq_true_eq, e1, e2]
    exact hlt
  · rintro ⟨g, hg, hx⟩
    obtain ⟨g', hg', hx⟩ := List.any_eq_true.mp hx
    rw [decide_eq_true_eq] at hx
    have h1 : (reachR r h g).1 ≤ maxL ((gs.map (reachR r h)).map (·.1)) := le_maxL (List.mem_map_of_mem (List.mem_map_of_mem hg))
    have h2 : minL ((gs.map (reachR r h)).map (·.2)) ≤ (reachR r h g').2 := minL_le (List.mem_map_of_mem (List.mem_map_of_mem hg'))
    grind
theorem do_u15 (d : Nat) (H : Sit r h gs) {S : Store} {c0 c1 c2 c3 c4 c5 c6 c7 c8 c9 c10 c11 c12 c13 c14 c17 c18 c20 : Option PV} : sx ⟨G.refs, G.orc (d + 9)⟩ 0 u15 [c0, c1, c2, c3, c4, c5, c6, c7, c8, c9, c10, c11, c12, c13, c14, some (.d (fr (maxL ((gs.map (reachR r h)).map (·.1))))), some (.d (fr (minL ((gs.map (reachR r h)).map (·.2))))), c17, c18, some (.d (.list (gs.map fun g => .bool (gs.any fun g' => decide ((reachR r h g').2 < (reachR r h g).1))))), c20] S = some (.nx [c0, c1, c2, c3, c4, c5, c6, c7, c8, c9, c10, c11, c12, c13, c14, some (.d (fr (maxL ((gs.map (reachR r h)).map (·.1))))), some (.d (fr (minL ((gs.map (reachR r h)).map (·.2))))), c17, c18, some (.d (.list (gs.map fun g => .bool (gs.any fun g' => decide ((reachR r h g').2 < (reachR r h g).1))))), c20] S) := by
  have n1 : (gs.map (reachR r h)).map (·.1) ≠ [] := by simpa using H.ne
  have n2 : (gs.map (reachR r h)).map (·.2) ≠ [] := by simpa using H.ne
  have z1 : sz 158 (maxL ((gs.map (reachR r h)).map (·.1))) := by
    obtain ⟨p, hp, e1⟩ := List.mem_map.mp (maxL_mem n1)
    obtain ⟨g, hg, rfl⟩ := List.mem_map.mp hp
    rw [← e1]
    exact (H.szr hg).1
  have z2 : sz 158 (minL ((gs.map (reachR r h)).map (·.2))) := by
    obtain ⟨p, hp, e1⟩ := List.mem_map.mp (minL_mem n2)
    obtain ⟨g, hg, rfl⟩ := List.mem_map.mp hp
    rw [← e1]
    exact (H.szr hg).2
  have f := run_law_below (d + 8) z2 z1 (by omega) (by omega)
  rw [low_high H] at f
  have ba := bf_any (fun g => gs.any fun g' => decide ((reachR r h g').2 < (reachR r h g).1)) gs
  generalize (gs.any fun g => gs.any fun g' => decide ((reachR r h g').2 < (reachR r h g).1)) = b at *
  generalize (gs.map fun g => PyData.bool (gs.any fun g' => decide ((reachR r h g').2 < (reachR r h g).1))) = L at *
  generalize maxL ((gs.map (reachR r h)).map (·.1)) = A at *
  generalize minL ((gs.map (reachR r h)).map (·.2)) = B at *
  simp [u15, runFn, sxs_cons, sxs_nil, sx_asg, sx_asgT, sx_alloc, sx_par, sx_if, sx_retV, ret_tup, evn_tup, ret_lst, evn_lst, ret_bin, evn_bin, ret_neg, evn_neg, ret_not, evn_not, ret_cmp, evn_cmp, ret_chain, evn_chain, ret_and, evn_and, ret_or, evn_or, ret_ite, evn_ite, ret_ix, evn_ix, ret_sl, evn_sl, ret_bf, evn_bf, ret_met, evn_met, ret_comp, evn_comp, ret_cst, evn_cst, ret_call, sx_expr, sx_aug, sx_brk, sx_cnt, ev_var, ev_cst, ev_tup, ev_lst, ev_bin, ev_neg, ev_not, ev_cmp, ev_chain, ev_and, ev_or, ev_ite, ev_ix, ev_sl, ev_back, ev_call, ev_bf, ev_met, evn_call, evns, evs, evp, evt, own, setAll, callC, derefs, isRef, op1, op2, dt, vd, vb, Cr.part, intD, deref, items_list, items_tuple, Cr.ixN, ix_tup, ix_list, ix_fr0, ix_fr1, ix_sp0, ix_sp1, ix_gsp0, ix_gsp1, items_fr, items_sp, items_rg, cmp_eqF, cmp_neF, binD, tru_int, tru_bool, bd_nm, bd_tup, bds_nil, bds_cons, frz, frzV, isNew, bfD, metS, metD, isLst, cmp_eqI, cmp_neI, cmp_ltI, cmp_leI, cmp_gtI, cmp_geI, cmp_isNone, cmp_isNoneT, cmp_notNone, cmp_notNoneT, cmp_notB, cmp_isB, cmp_neB, cmp_eqB, bd_sp, bd_gsp, bd_pkd, items_gsp, -bfD, rf0, rf1, rf2, rf3, rf4, rf5, rf6, rf7, rf8, rf9, rf10, rf11, rf12, rf13, rf14, rf15, rf16, rf17, rf18, rf19, rf20, rf21, rf22, rf23, rf24, rf25, rf26, rf27, rf28, rf29, rf30, rf31, rf32, rf33, rf34, rf35, rf36, rf37, rf38, rf39, rf40, rf41, rf42, rf43, rf44, rf45, f, ba]
end
end Lw

/-! ## LwB6 -/
set_option Elab.async false
set_option linter.all false
set_option autoImplicit false
set_option maxRecDepth 100000
set_option maxHeartbeats 4000000
set_option exponentiation.threshold 100000
namespace Lw
open PySem PySem.Spec Cr
--NN 21
theorem len_cons {α : Type} {n : Nat} {l : List α} (h : l.length = n + 1) : ∃ a t, l = a :: t ∧ t.length = n := by
  cases l with
  | nil => simp at h
  | cons a t => exact ⟨a, t, rfl, by simpa using h⟩
theorem len21 {α : Type} {l0 : List α} (h0 : l0.length = 21) : ∃ c0 c1 c2 c3 c4 c5 c6 c7 c8 c9 c10 c11 c12 c13 c14 c15 c16 c17 c18 c19 c20 : α, l0 = [c0, c1, c2, c3, c4, c5, c6, c7, c8, c9, c10, c11, c12, c13, c14, c15, c16, c17, c18, c19, c20] := by
  obtain ⟨c0, l1, e0, h1⟩ := len_cons h0
  obtain ⟨c1, l2, e1, h2⟩ := len_cons h1
  obtain ⟨c2, l3, e2, h3⟩ := len_cons h2
  obtain ⟨c3, l4, e3, h4⟩ := len_cons h3
  obtain ⟨c4, l5, e4, h5⟩ := len_cons h4
  obtain ⟨c5, l6, e5, h6⟩ := len_cons h5
  obtain ⟨c6, l7, e6, h7⟩ := len_cons h6
  obtain ⟨c7, l8, e7, h8⟩ := len_cons h7
  obtain ⟨c8, l9, e8, h9⟩ := len_cons h8
  obtain ⟨c9, l10, e9, h10⟩ := len_cons h9
  obtain ⟨c10, l11, e10, h11⟩ := len_cons h10
  obtain ⟨c11, l12, e11, h12⟩ := len_cons h11
  obtain ⟨c12, l13, e12, h13⟩ := len_cons h12
  obtain ⟨c13, l14, e13, h14⟩ := len_cons h13
  obtain ⟨c14, l15, e14, h15⟩ := len_cons h14
  obtain ⟨c15, l16, e15, h16⟩ := len_cons h15
  obtain ⟨c16, l17, e16, h17⟩ := len_cons h16
  obtain ⟨c17, l18, e17, h18⟩ := len_cons h17
  obtain ⟨c18, l19, e18, h19⟩ := len_cons h18
  obtain ⟨c19, l20, e19, h20⟩ := len_cons h19
  obtain ⟨c20, l21, e20, h21⟩ := len_cons h20
  have e21 : l21 = [] := List.eq_nil_of_length_eq_zero h21
  subst e21 e20 e19 e18 e17 e16 e15 e14 e13 e12 e11 e10 e9 e8 e7 e6 e5 e4 e3 e2 e1 e0
  exact ⟨c0, c1, c2, c3, c4, c5, c6, c7, c8, c9, c10, c11, c12, c13, c14, c15, c16, c17, c18, c19, c20, rfl⟩
theorem rng3 (P : Prm) (ρ : Ev) (S : Store) : evi P (.rng (.cst (.int 0)) (.cst (.int 3))) ρ S = some ((rangeL 0 3, fun _ => True), S) :=
  evi_rng (S1 := S) (x := .int 0) (y := .int 3) (by simp [ev_cst]) (by simp [ev_cst]) (rng_ok (by omega) (by omega) (by omega) (by omega))
theorem lap (d : Nat) {ρ : Ev} {o : Cr.PO} {rest : Store} (ho : IsSrc o) (hl : ρ.length = 21) (h1 : ρ[1]? = some (some (.r 0))) : ∃ (ρ' : Ev) (o' : Cr.PO), IsSrc o' ∧ ρ'.length = 21 ∧ ρ'[1]? = some (some (.r 0)) ∧ sxs ⟨G.refs, G.orc (d + 9)⟩ 0 lapB ρ (o :: rest) = some (.nx ρ' (o' :: rest)) := by
  obtain ⟨c0, c1, c2, c3, c4, c5, c6, c7, c8, c9, c10, c11, c12, c13, c14, c15, c16, c17, c18, c19, c20, rfl⟩ := len21 hl
  have h1 : c1 = some (.r 0) := by simpa using h1
  subst h1
  obtain ⟨r, o1, r2, r30, up, zr, s1, t1⟩ := do_u1 d ho (rest := rest) (c0 := c0) (c2 := c2) (c3 := c3) (c4 := c4) (c5 := c5) (c6 := c6) (c7 := c7) (c8 := c8) (c9 := c9) (c10 := c10) (c11 := c11) (c12 := c12) (c13 := c13) (c14 := c14) (c15 := c15) (c16 := c16) (c17 := c17) (c18 := c18) (c19 := c19) (c20 := c20)
  obtain ⟨h, o2, zh, above, s2, t2⟩ := do_u2 d s1 r2 r30 zr (rest := rest) (c0 := c0) (c2 := c2) (c4 := c4) (c5 := c5) (c6 := c6) (c7 := c7) (c8 := c8) (c9 := c9) (c10 := c10) (c11 := c11) (c12 := c12) (c13 := c13) (c14 := c14) (c15 := c15) (c16 := c16) (c17 := c17) (c18 := c18) (c19 := c19) (c20 := c20)
  obtain ⟨gs, o3, g4, gq, s3, t3⟩ := do_u3 d s2 r2 r30 (rest := rest) (c0 := c0) (c2 := c2) (c5 := c5) (c6 := c6) (c7 := c7) (c8 := c8) (c9 := c9) (c10 := c10) (c11 := c11) (c12 := c12) (c13 := c13) (c14 := c14) (c15 := c15) (c16 := c16) (c17 := c17) (c18 := c18) (c19 := c19) (c20 := c20) (c4 := some (.d (fr h)))
  have H : Sit r h gs := ⟨r2, r30, up, zr, zh, above, fun g hg => (gq g hg).1, fun g hg => (gq g hg).2.1, fun g hg => (gq g hg).2.2, by intro e; rw [e] at g4; simp at g4, by omega⟩
  have t4 := do_u4 d H (S := o3 :: rest) (c0 := c0) (c2 := c2) (c6 := c6) (c7 := c7) (c8 := c8) (c9 := c9) (c10 := c10) (c11 := c11) (c12 := c12) (c13 := c13) (c14 := c14) (c15 := c15) (c16 := c16) (c17 := c17) (c18 := c18) (c19 := c19) (c20 := c20) (c1 := some (.r 0)) (c4 := some (.d (fr h)))
  have t5 := do_u5 d H (S := o3 :: rest) (c0 := c0) (c2 := c2) (c6 := c6) (c8 := c8) (c9 := c9) (c10 := c10) (c11 := c11) (c12 := c12) (c13 := c13) (c14 := c14) (c15 := c15) (c16 := c16) (c17 := c17) (c18 := c18) (c19 := c19) (c20 := c20) (c1 := some (.r 0)) (c5 := some (.d (.list (gs.map gsp))))
  have t6 := do_u6 d H (S := o3 :: rest) (c0 := c0) (c2 := c2) (c6 := c6) (c8 := c8) (c9 := c9) (c11 := c11) (c12 := c12) (c13 := c13) (c14 := c14) (c15 := c15) (c16 := c16) (c17 := c17) (c18 := c18) (c19 := c19) (c20 := c20) (c1 := some (.r 0)) (c4 := some (.d (fr h))) (c10 := some (.d (.list (gs.map (rcD r h)))))
  have t7 := do_u7 d H (S := o3 :: rest) (c0 := c0) (c2 := c2) (c6 := c6) (c8 := c8) (c9 := c9) (c11 := c11) (c12 := c12) (c13 := c13) (c14 := c14) (c15 := c15) (c16 := c16) (c17 := c17) (c18 := c18) (c19 := c19) (c20 := c20) (c1 := some (.r 0)) (c7 := some (.d (.list (gs.map (spD r)))))
  obtain ⟨xs, o4, lx, zx, s4, t8⟩ := do_u8 d H s3 (rest := rest) (c0 := c0) (c2 := c2) (c6 := c6) (c8 := c8) (c9 := c9) (c11 := c11) (c12 := c12) (c13 := c13) (c14 := c14) (c15 := c15) (c16 := c16) (c17 := c17) (c18 := c18) (c19 := c19) (c20 := c20) (c4 := some (.d (fr h))) (c5 := some (.d (.list (gs.map gsp)))) (c7 := some (.d (.list (gs.map (spD r))))) (c10 := some (.d (.list (gs.map (rcD r h)))))
  obtain ⟨ys, p15, p16, zy, ly, t9⟩ := do_u9 d H g4 lx zx (S := o4 :: rest) (c0 := c0) (c2 := c2) (c6 := c6) (c8 := c8) (c9 := c9) (c11 := c11) (c12 := c12) (c13 := c13) (c15 := c15) (c16 := c16) (c17 := c17) (c18 := c18) (c19 := c19) (c20 := c20) (c1 := some (.r 0)) (c3 := some (.d (rg r))) (c4 := some (.d (fr h))) (c5 := some (.d (.list (gs.map gsp)))) (c7 := some (.d (.list (gs.map (spD r)))))
  obtain ⟨zs, lz, zz, t10⟩ := do_u10 d H ly zy (S := o4 :: rest) (c0 := c0) (c2 := c2) (c6 := c6) (c8 := c8) (c9 := c9) (c11 := c11) (c12 := c12) (c13 := c13) (c17 := c17) (c18 := c18) (c19 := c19) (c20 := c20) (c1 := some (.r 0)) (c4 := some (.d (fr h))) (c5 := some (.d (.list (gs.map gsp)))) (c7 := some (.d (.list (gs.map (spD r))))) (c10 := some (.d (.list (gs.map (rcD r h))))) (c15 := p15) (c16 := p16)
  obtain ⟨q11, q12, q15, q16, q18, t11⟩ := do_u11 d H lz zz (S := o4 :: rest) (c0 := c0) (c2 := c2) (c6 := c6) (c8 := c8) (c9 := c9) (c11 := c11) (c12 := c12) (c13 := c13) (c17 := c17) (c18 := c18) (c19 := c19) (c20 := c20) (c1 := some (.r 0)) (c15 := p15) (c16 := p16)
  have t12 := do_u12 d H (S := o4 :: rest) (c0 := c0) (c2 := c2) (c6 := c6) (c8 := c8) (c9 := c9) (c13 := c13) (c17 := c17) (c19 := c19) (c20 := c20) (c1 := some (.r 0)) (c3 := some (.d (rg r))) (c4 := some (.d (fr h))) (c5 := some (.d (.list (gs.map gsp)))) (c7 := some (.d (.list (gs.map (spD r))))) (c11 := q11) (c12 := q12) (c14 := some (.d (.list (zs.map fr)))) (c15 := q15) (c16 := q16) (c18 := q18)
  have t13 := do_u13 d H (S := o4 :: rest) (c0 := c0) (c2 := c2) (c6 := c6) (c8 := c8) (c9 := c9) (c13 := c13) (c17 := c17) (c19 := c19) (c20 := c20) (c1 := some (.r 0)) (c7 := some (.d (.list (gs.map (spD r))))) (c10 := some (.d (.list (gs.map (rcD r h))))) (c11 := q11) (c12 := q12) (c14 := some (.d (.list (zs.map fr)))) (c18 := q18)
  have t14 := do_u14 d H (S := o4 :: rest) (c0 := c0) (c2 := c2) (c6 := c6) (c8 := c8) (c9 := c9) (c13 := c13) (c17 := c17) (c19 := c19) (c20 := c20) (c1 := some (.r 0)) (c3 := some (.d (rg r))) (c4 := some (.d (fr h))) (c5 := some (.d (.list (gs.map gsp)))) (c7 := some (.d (.list (gs.map (spD r))))) (c11 := q11) (c12 := q12) (c14 := some (.d (.list (zs.map fr)))) (c15 := some (.d (fr (maxL ((gs.map (reachR r h)).map (·.1)))))) (c16 := some (.d (fr (minL ((gs.map (reachR r h)).map (·.2)))))) (c18 := q18)
  have t15 := do_u15 d H (S := o4 :: rest) (c0 := c0) (c2 := c2) (c6 := c6) (c8 := c8) (c9 := c9) (c13 := c13) (c17 := c17) (c20 := c20) (c1 := some (.r 0)) (c3 := some (.d (rg r))) (c4 := some (.d (fr h))) (c5 := some (.d (.list (gs.map gsp)))) (c7 := some (.d (.list (gs.map (spD r))))) (c10 := some (.d (.list (gs.map (rcD r h))))) (c11 := q11) (c12 := q12) (c14 := some (.d (.list (zs.map fr)))) (c18 := q18)
  refine ⟨[c0, some (.r 0), c2, some (.d (rg r)), some (.d (fr h)), some (.d (.list (gs.map gsp))), c6, some (.d (.list (gs.map (spD r)))), c8, c9, some (.d (.list (gs.map (rcD r h)))), q11, q12, c13, some (.d (.list (zs.map fr))), some (.d (fr (maxL ((gs.map (reachR r h)).map (·.1))))), some (.d (fr (minL ((gs.map (reachR r h)).map (·.2))))), c17, q18, some (.d (.list (gs.map fun g => .bool (gs.any fun g' => decide ((reachR r h g').2 < (reachR r h g).1))))), c20], o4, s4, rfl, rfl, ?_⟩
  unfold lapB
  rw [sxs_cons, t1]
  simp only [Option.bind_some]
  rw [sxs_cons, t2]
  simp only [Option.bind_some]
  rw [sxs_cons, t3]
  simp only [Option.bind_some]
  rw [sxs_cons, t4]
  simp only [Option.bind_some]
  rw [sxs_cons, t5]
  simp only [Option.bind_some]
  rw [sxs_cons, t6]
  simp only [Option.bind_some]
  rw [sxs_cons, t7]
  simp only [Option.bind_some]
  rw [sxs_cons, t8]
  simp only [Option.bind_some]
  rw [sxs_cons, t9]
  simp only [Option.bind_some]
  rw [sxs_cons, t10]
  simp only [Option.bind_some]
  rw [sxs_cons, t11]
  simp only [Option.bind_some]
  rw [sxs_cons, t12]
  simp only [Option.bind_some]
  rw [sxs_cons, t13]
  simp only [Option.bind_some]
  rw [sxs_cons, t14]
  simp only [Option.bind_some]
  rw [sxs_cons, t15]
  simp only [Option.bind_some]
  rw [sxs_nil]
theorem laps (d : Nat) (g : Store → Prop) (hg : ∀ S, g S) : ∀ (xs : List PyData) {ρ : Ev} {o : Cr.PO} {rest : Store} (ho : IsSrc o) (hl : ρ.length = 21) (h1 : ρ[1]? = some (some (.r 0))), ∃ (ρ' : Ev) (S' : Store), forL g (fun (y : PyData) (ρ : Ev) (S : Store) => (bd (.nm 2) y ρ).bind fun ρ1 => sxs ⟨G.refs, G.orc (d + 9)⟩ 0 lapB ρ1 S) xs ρ (o :: rest) = some (.nx ρ' S')
  | [], ρ, o, rest, ho, hl, h1 => ⟨ρ, o :: rest, forL_nil (hg _)⟩
  | x :: xs, ρ, o, rest, ho, hl, h1 => by
    obtain ⟨ρ1, o1, s1, l1, r1, e1⟩ := lap d (ρ := ρ.set 2 (some (.d x))) (rest := rest) ho (by simpa using hl) (by rw [List.getElem?_set_ne (by omega)]; exact h1)
    obtain ⟨ρ2, S2, e2⟩ := laps d g hg xs s1 l1 r1 (rest := rest)
    refine ⟨ρ2, S2, ?_⟩
    rw [forL_cons (hg _) (ρ' := ρ1) (S' := o1 :: rest) ?_, e2]
    rw [bd_nm]
    exact e1
theorem ints_map : ∀ ns : List Int, intsOf (ns.map PyData.int) = some ns
  | [] => rfl
  | n :: ns => by
    rw [List.map_cons]
    show (intsOf (ns.map PyData.int)).map (n :: ·) = _
    rw [ints_map ns]
    rfl
theorem law_true : LawTrue G 20 44 := by
  intro ns hn
  rw [orc_fn 19 pg44]
  unfold runFn
  simp only [b_lap]
  simp only [List.length_cons, List.length_nil, List.map_cons, List.map_nil, if_true]
  obtain ⟨ρ', S', e⟩ := laps 10 (fun _ => True) (fun _ => trivial) (rangeL 0 3) (ρ := [some (.d (.list (ns.map PyData.int))), some (.r 0)] ++ List.replicate 19 none) (o := openS ns) (rest := []) ⟨_, _, _, _, rfl⟩ rfl rfl
  have t1 : sx ⟨G.refs, G.orc 19⟩ 0 (.opn 1 (.var 0)) ([some (.d (.list (ns.map PyData.int)))] ++ List.replicate 20 none) [] = some (.nx ([some (.d (.list (ns.map PyData.int))), some (.r 0)] ++ List.replicate 19 none) [openS ns]) := by
    rw [sx]
    have hn' : ns.length ≤ 1000 := by omega
    simp [op1, ev_var, deref, ints_map, hn', List.replicate]
  have t2 : sx ⟨G.refs, G.orc 19⟩ 0 (.sfor (.nm 2) (.rng (.cst (.int 0)) (.cst (.int 3))) lapB) ([some (.d (.list (ns.map PyData.int))), some (.r 0)] ++ List.replicate 19 none) [openS ns] = some (.nx ρ' S') := by
    rw [sx_for, rng3]
    exact e
  refine ⟨false, [], ?_⟩
  show ((sxs ⟨G.refs, G.orc 19⟩ 0 _ ([some (.d (.list (ns.map PyData.int)))] ++ List.replicate 20 none) []).bind _) = _
  rw [sxs_cons, t1]
  simp only [Option.bind_some]
  rw [sxs_cons, t2]
  simp [runFn, sxs_cons, sxs_nil, sx_asg, sx_asgT, sx_alloc, sx_par, sx_if, sx_retV, ret_tup, evn_tup, ret_lst, evn_lst, ret_bin, evn_bin, ret_neg, evn_neg, ret_not, evn_not, ret_cmp, evn_cmp, ret_chain, evn_chain, ret_and, evn_and, ret_or, evn_or, ret_ite, evn_ite, ret_ix, evn_ix, ret_sl, evn_sl, ret_bf, evn_bf, ret_met, evn_met, ret_comp, evn_comp, ret_cst, evn_cst, ret_call, sx_expr, sx_aug, sx_brk, sx_cnt, ev_var, ev_cst, ev_tup, ev_lst, ev_bin, ev_neg, ev_not, ev_cmp, ev_chain, ev_and, ev_or, ev_ite, ev_ix, ev_sl, ev_back, ev_call, ev_bf, ev_met, evn_call, evns, evs, evp, evt, own, setAll, callC, derefs, isRef, op1, op2, dt, vd, vb, Cr.part, intD, deref, items_list, items_tuple, Cr.ixN, ix_tup, ix_list, ix_fr0, ix_fr1, ix_sp0, ix_sp1, ix_gsp0, ix_gsp1, items_fr, items_sp, items_rg, cmp_eqF, cmp_neF, binD, tru_int, tru_bool, bd_nm, bd_tup, bds_nil, bds_cons, frz, frzV, isNew, bfD, metS, metD, isLst, cmp_eqI, cmp_neI, cmp_ltI, cmp_leI, cmp_gtI, cmp_geI, cmp_isNone, cmp_isNoneT, cmp_notNone, cmp_notNoneT, cmp_notB, cmp_isB, cmp_neB, cmp_eqB, bd_sp, bd_gsp, bd_pkd, items_gsp]
end Lw

/-! ## LwC -/
set_option Elab.async false
set_option linter.all false
set_option autoImplicit false
set_option maxRecDepth 100000
set_option maxHeartbeats 4000000
namespace Lw
open PySem PySem.Spec L2 Cr
open PyProof.Rows (envOfC)
/-! ### what the top has written -/
theorem all_mk (hlaw : LawTrue G 20 44) {l : PySem.W.OpenLaw} {w : World} {K : PySem.W.Frag} {h : Heap} {mg : Str → Option Value} {fa : Addr} (X : K.In h) (N : h.Ns mainGlobals mg) (hfa : mg "law" = some (.ref fa))
    {f0 : Addr} {od0 an0 : Option Addr} {sl0 : Array (Option Value)} {oc0 kV0 dc0 pm0 cd0 ct0 : Value} (a0 : PySem.W.nsIn K mainGlobals "is_integer" = some (some (.ref f0)))
    (l0 : K.lookup f0 = some ⟨oc0, od0, .func (PySem.W.fnOf "is_integer" "is_integer" (defArgs s0) (defBody s0) (defScope s0) .none kV0 dc0 pm0 an0 cd0 ct0), sl0⟩) (c0 : PySem.W.codeIn K cd0 "is_integer" = true) (k0 : PySem.W.keepIn K (.ref f0) = true)
    {f1 : Addr} {od1 an1 : Option Addr} {sl1 : Array (Option Value)} {oc1 kV1 dc1 pm1 cd1 ct1 : Value} (a1 : PySem.W.nsIn K mainGlobals "common" = some (some (.ref f1)))
    (l1 : K.lookup f1 = some ⟨oc1, od1, .func (PySem.W.fnOf "common" "common" (defArgs s1) (defBody s1) (defScope s1) .none kV1 dc1 pm1 an1 cd1 ct1), sl1⟩) (c1 : PySem.W.codeIn K cd1 "common" = true) (k1 : PySem.W.keepIn K (.ref f1) = true)
    {f2 : Addr} {od2 an2 : Option Addr} {sl2 : Array (Option Value)} {oc2 kV2 dc2 pm2 cd2 ct2 : Value} (a2 : PySem.W.nsIn K mainGlobals "is_fraction" = some (some (.ref f2)))
    (l2 : K.lookup f2 = some ⟨oc2, od2, .func (PySem.W.fnOf "is_fraction" "is_fraction" (defArgs s2) (defBody s2) (defScope s2) .none kV2 dc2 pm2 an2 cd2 ct2), sl2⟩) (c2 : PySem.W.codeIn K cd2 "is_fraction" = true) (k2 : PySem.W.keepIn K (.ref f2) = true)
    {f3 : Addr} {od3 an3 : Option Addr} {sl3 : Array (Option Value)} {oc3 kV3 dc3 pm3 cd3 ct3 : Value} (a3 : PySem.W.nsIn K mainGlobals "fraction" = some (some (.ref f3)))
    (l3 : K.lookup f3 = some ⟨oc3, od3, .func (PySem.W.fnOf "fraction" "fraction" (defArgs s3) (defBody s3) (defScope s3) .none kV3 dc3 pm3 an3 cd3 ct3), sl3⟩) (c3 : PySem.W.codeIn K cd3 "fraction" = true) (k3 : PySem.W.keepIn K (.ref f3) = true)
    {f4 : Addr} {od4 an4 : Option Addr} {sl4 : Array (Option Value)} {oc4 kV4 dc4 pm4 cd4 ct4 : Value} (a4 : PySem.W.nsIn K mainGlobals "added" = some (some (.ref f4)))
    (l4 : K.lookup f4 = some ⟨oc4, od4, .func (PySem.W.fnOf "added" "added" (defArgs s4) (defBody s4) (defScope s4) .none kV4 dc4 pm4 an4 cd4 ct4), sl4⟩) (c4 : PySem.W.codeIn K cd4 "added" = true) (k4 : PySem.W.keepIn K (.ref f4) = true)
    {f5 : Addr} {od5 an5 : Option Addr} {sl5 : Array (Option Value)} {oc5 kV5 dc5 pm5 cd5 ct5 : Value} (a5 : PySem.W.nsIn K mainGlobals "lessened" = some (some (.ref f5)))
    (l5 : K.lookup f5 = some ⟨oc5, od5, .func (PySem.W.fnOf "lessened" "lessened" (defArgs s5) (defBody s5) (defScope s5) .none kV5 dc5 pm5 an5 cd5 ct5), sl5⟩) (c5 : PySem.W.codeIn K cd5 "lessened" = true) (k5 : PySem.W.keepIn K (.ref f5) = true)
    {f6 : Addr} {od6 an6 : Option Addr} {sl6 : Array (Option Value)} {oc6 kV6 dc6 pm6 cd6 ct6 : Value} (a6 : PySem.W.nsIn K mainGlobals "multiplied" = some (some (.ref f6)))
    (l6 : K.lookup f6 = some ⟨oc6, od6, .func (PySem.W.fnOf "multiplied" "multiplied" (defArgs s6) (defBody s6) (defScope s6) .none kV6 dc6 pm6 an6 cd6 ct6), sl6⟩) (c6 : PySem.W.codeIn K cd6 "multiplied" = true) (k6 : PySem.W.keepIn K (.ref f6) = true)
    {f7 : Addr} {od7 an7 : Option Addr} {sl7 : Array (Option Value)} {oc7 kV7 dc7 pm7 cd7 ct7 : Value} (a7 : PySem.W.nsIn K mainGlobals "divided" = some (some (.ref f7)))
    (l7 : K.lookup f7 = some ⟨oc7, od7, .func (PySem.W.fnOf "divided" "divided" (defArgs s7) (defBody s7) (defScope s7) .none kV7 dc7 pm7 an7 cd7 ct7), sl7⟩) (c7 : PySem.W.codeIn K cd7 "divided" = true) (k7 : PySem.W.keepIn K (.ref f7) = true)
    {f8 : Addr} {od8 an8 : Option Addr} {sl8 : Array (Option Value)} {oc8 kV8 dc8 pm8 cd8 ct8 : Value} (a8 : PySem.W.nsIn K mainGlobals "compared" = some (some (.ref f8)))
    (l8 : K.lookup f8 = some ⟨oc8, od8, .func (PySem.W.fnOf "compared" "compared" (defArgs s8) (defBody s8) (defScope s8) .none kV8 dc8 pm8 an8 cd8 ct8), sl8⟩) (c8 : PySem.W.codeIn K cd8 "compared" = true) (k8 : PySem.W.keepIn K (.ref f8) = true)
    {f9 : Addr} {od9 an9 : Option Addr} {sl9 : Array (Option Value)} {oc9 kV9 dc9 pm9 cd9 ct9 : Value} (a9 : PySem.W.nsIn K mainGlobals "least_of" = some (some (.ref f9)))
    (l9 : K.lookup f9 = some ⟨oc9, od9, .func (PySem.W.fnOf "least_of" "least_of" (defArgs s9) (defBody s9) (defScope s9) .none kV9 dc9 pm9 an9 cd9 ct9), sl9⟩) (c9 : PySem.W.codeIn K cd9 "least_of" = true) (k9 : PySem.W.keepIn K (.ref f9) = true)
    {f10 : Addr} {od10 an10 : Option Addr} {sl10 : Array (Option Value)} {oc10 kV10 dc10 pm10 cd10 ct10 : Value} (a10 : PySem.W.nsIn K mainGlobals "greatest_of" = some (some (.ref f10)))
    (l10 : K.lookup f10 = some ⟨oc10, od10, .func (PySem.W.fnOf "greatest_of" "greatest_of" (defArgs s10) (defBody s10) (defScope s10) .none kV10 dc10 pm10 an10 cd10 ct10), sl10⟩) (c10 : PySem.W.codeIn K cd10 "greatest_of" = true) (k10 : PySem.W.keepIn K (.ref f10) = true)
    {f11 : Addr} {od11 an11 : Option Addr} {sl11 : Array (Option Value)} {oc11 kV11 dc11 pm11 cd11 ct11 : Value} (a11 : PySem.W.nsIn K mainGlobals "between" = some (some (.ref f11)))
    (l11 : K.lookup f11 = some ⟨oc11, od11, .func (PySem.W.fnOf "between" "between" (defArgs s11) (defBody s11) (defScope s11) .none kV11 dc11 pm11 an11 cd11 ct11), sl11⟩) (c11 : PySem.W.codeIn K cd11 "between" = true) (k11 : PySem.W.keepIn K (.ref f11) = true)
    {f12 : Addr} {od12 an12 : Option Addr} {sl12 : Array (Option Value)} {oc12 kV12 dc12 pm12 cd12 ct12 : Value} (a12 : PySem.W.nsIn K mainGlobals "height_at" = some (some (.ref f12)))
    (l12 : K.lookup f12 = some ⟨oc12, od12, .func (PySem.W.fnOf "height_at" "height_at" (defArgs s12) (defBody s12) (defScope s12) .none kV12 dc12 pm12 an12 cd12 ct12), sl12⟩) (c12 : PySem.W.codeIn K cd12 "height_at" = true) (k12 : PySem.W.keepIn K (.ref f12) = true)
    {f13 : Addr} {od13 an13 : Option Addr} {sl13 : Array (Option Value)} {oc13 kV13 dc13 pm13 cd13 ct13 : Value} (a13 : PySem.W.nsIn K mainGlobals "place_at" = some (some (.ref f13)))
    (l13 : K.lookup f13 = some ⟨oc13, od13, .func (PySem.W.fnOf "place_at" "place_at" (defArgs s13) (defBody s13) (defScope s13) .none kV13 dc13 pm13 an13 cd13 ct13), sl13⟩) (c13 : PySem.W.codeIn K cd13 "place_at" = true) (k13 : PySem.W.keepIn K (.ref f13) = true)
    {f14 : Addr} {od14 an14 : Option Addr} {sl14 : Array (Option Value)} {oc14 kV14 dc14 pm14 cd14 ct14 : Value} (a14 : PySem.W.nsIn K mainGlobals "spot_between" = some (some (.ref f14)))
    (l14 : K.lookup f14 = some ⟨oc14, od14, .func (PySem.W.fnOf "spot_between" "spot_between" (defArgs s14) (defBody s14) (defScope s14) .none kV14 dc14 pm14 an14 cd14 ct14), sl14⟩) (c14 : PySem.W.codeIn K cd14 "spot_between" = true) (k14 : PySem.W.keepIn K (.ref f14) = true)
    {f15 : Addr} {od15 an15 : Option Addr} {sl15 : Array (Option Value)} {oc15 kV15 dc15 pm15 cd15 ct15 : Value} (a15 : PySem.W.nsIn K mainGlobals "is_within" = some (some (.ref f15)))
    (l15 : K.lookup f15 = some ⟨oc15, od15, .func (PySem.W.fnOf "is_within" "is_within" (defArgs s15) (defBody s15) (defScope s15) .none kV15 dc15 pm15 an15 cd15 ct15), sl15⟩) (c15 : PySem.W.codeIn K cd15 "is_within" = true) (k15 : PySem.W.keepIn K (.ref f15) = true)
    {f16 : Addr} {od16 an16 : Option Addr} {sl16 : Array (Option Value)} {oc16 kV16 dc16 pm16 cd16 ct16 : Value} (a16 : PySem.W.nsIn K mainGlobals "spot_of" = some (some (.ref f16)))
    (l16 : K.lookup f16 = some ⟨oc16, od16, .func (PySem.W.fnOf "spot_of" "spot_of" (defArgs s16) (defBody s16) (defScope s16) .none kV16 dc16 pm16 an16 cd16 ct16), sl16⟩) (c16 : PySem.W.codeIn K cd16 "spot_of" = true) (k16 : PySem.W.keepIn K (.ref f16) = true)
    {f17 : Addr} {od17 an17 : Option Addr} {sl17 : Array (Option Value)} {oc17 kV17 dc17 pm17 cd17 ct17 : Value} (a17 : PySem.W.nsIn K mainGlobals "line_of" = some (some (.ref f17)))
    (l17 : K.lookup f17 = some ⟨oc17, od17, .func (PySem.W.fnOf "line_of" "line_of" (defArgs s17) (defBody s17) (defScope s17) .none kV17 dc17 pm17 an17 cd17 ct17), sl17⟩) (c17 : PySem.W.codeIn K cd17 "line_of" = true) (k17 : PySem.W.keepIn K (.ref f17) = true)
    {f18 : Addr} {od18 an18 : Option Addr} {sl18 : Array (Option Value)} {oc18 kV18 dc18 pm18 cd18 ct18 : Value} (a18 : PySem.W.nsIn K mainGlobals "is_place" = some (some (.ref f18)))
    (l18 : K.lookup f18 = some ⟨oc18, od18, .func (PySem.W.fnOf "is_place" "is_place" (defArgs s18) (defBody s18) (defScope s18) .none kV18 dc18 pm18 an18 cd18 ct18), sl18⟩) (c18 : PySem.W.codeIn K cd18 "is_place" = true) (k18 : PySem.W.keepIn K (.ref f18) = true)
    {f19 : Addr} {od19 an19 : Option Addr} {sl19 : Array (Option Value)} {oc19 kV19 dc19 pm19 cd19 ct19 : Value} (a19 : PySem.W.nsIn K mainGlobals "is_under" = some (some (.ref f19)))
    (l19 : K.lookup f19 = some ⟨oc19, od19, .func (PySem.W.fnOf "is_under" "is_under" (defArgs s19) (defBody s19) (defScope s19) .none kV19 dc19 pm19 an19 cd19 ct19), sl19⟩) (c19 : PySem.W.codeIn K cd19 "is_under" = true) (k19 : PySem.W.keepIn K (.ref f19) = true)
    {f20 : Addr} {od20 an20 : Option Addr} {sl20 : Array (Option Value)} {oc20 kV20 dc20 pm20 cd20 ct20 : Value} (a20 : PySem.W.nsIn K mainGlobals "barring" = some (some (.ref f20)))
    (l20 : K.lookup f20 = some ⟨oc20, od20, .func (PySem.W.fnOf "barring" "barring" (defArgs s20) (defBody s20) (defScope s20) .none kV20 dc20 pm20 an20 cd20 ct20), sl20⟩) (c20 : PySem.W.codeIn K cd20 "barring" = true) (k20 : PySem.W.keepIn K (.ref f20) = true)
    {f21 : Addr} {od21 an21 : Option Addr} {sl21 : Array (Option Value)} {oc21 kV21 dc21 pm21 cd21 ct21 : Value} (a21 : PySem.W.nsIn K mainGlobals "sees" = some (some (.ref f21)))
    (l21 : K.lookup f21 = some ⟨oc21, od21, .func (PySem.W.fnOf "sees" "sees" (defArgs s21) (defBody s21) (defScope s21) .none kV21 dc21 pm21 an21 cd21 ct21), sl21⟩) (c21 : PySem.W.codeIn K cd21 "sees" = true) (k21 : PySem.W.keepIn K (.ref f21) = true)
    {f22 : Addr} {od22 an22 : Option Addr} {sl22 : Array (Option Value)} {oc22 kV22 dc22 pm22 cd22 ct22 : Value} (a22 : PySem.W.nsIn K mainGlobals "seen_by" = some (some (.ref f22)))
    (l22 : K.lookup f22 = some ⟨oc22, od22, .func (PySem.W.fnOf "seen_by" "seen_by" (defArgs s22) (defBody s22) (defScope s22) .none kV22 dc22 pm22 an22 cd22 ct22), sl22⟩) (c22 : PySem.W.codeIn K cd22 "seen_by" = true) (k22 : PySem.W.keepIn K (.ref f22) = true)
    {f23 : Addr} {od23 an23 : Option Addr} {sl23 : Array (Option Value)} {oc23 kV23 dc23 pm23 cd23 ct23 : Value} (a23 : PySem.W.nsIn K mainGlobals "sight_places" = some (some (.ref f23)))
    (l23 : K.lookup f23 = some ⟨oc23, od23, .func (PySem.W.fnOf "sight_places" "sight_places" (defArgs s23) (defBody s23) (defScope s23) .none kV23 dc23 pm23 an23 cd23 ct23), sl23⟩) (c23 : PySem.W.codeIn K cd23 "sight_places" = true) (k23 : PySem.W.keepIn K (.ref f23) = true)
    {f24 : Addr} {od24 an24 : Option Addr} {sl24 : Array (Option Value)} {oc24 kV24 dc24 pm24 cd24 ct24 : Value} (a24 : PySem.W.nsIn K mainGlobals "reach" = some (some (.ref f24)))
    (l24 : K.lookup f24 = some ⟨oc24, od24, .func (PySem.W.fnOf "reach" "reach" (defArgs s24) (defBody s24) (defScope s24) .none kV24 dc24 pm24 an24 cd24 ct24), sl24⟩) (c24 : PySem.W.codeIn K cd24 "reach" = true) (k24 : PySem.W.keepIn K (.ref f24) = true)
    {f25 : Addr} {od25 an25 : Option Addr} {sl25 : Array (Option Value)} {oc25 kV25 dc25 pm25 cd25 ct25 : Value} (a25 : PySem.W.nsIn K mainGlobals "common_reach" = some (some (.ref f25)))
    (l25 : K.lookup f25 = some ⟨oc25, od25, .func (PySem.W.fnOf "common_reach" "common_reach" (defArgs s25) (defBody s25) (defScope s25) .none kV25 dc25 pm25 an25 cd25 ct25), sl25⟩) (c25 : PySem.W.codeIn K cd25 "common_reach" = true) (k25 : PySem.W.keepIn K (.ref f25) = true)
    {f26 : Addr} {od26 an26 : Option Addr} {sl26 : Array (Option Value)} {oc26 kV26 dc26 pm26 cd26 ct26 : Value} (a26 : PySem.W.nsIn K mainGlobals "_law_common" = some (some (.ref f26)))
    (l26 : K.lookup f26 = some ⟨oc26, od26, .func (PySem.W.fnOf "_law_common" "_law_common" (defArgs s26) (defBody s26) (defScope s26) .none kV26 dc26 pm26 an26 cd26 ct26), sl26⟩) (c26 : PySem.W.codeIn K cd26 "_law_common" = true) (k26 : PySem.W.keepIn K (.ref f26) = true)
    {f27 : Addr} {od27 an27 : Option Addr} {sl27 : Array (Option Value)} {oc27 kV27 dc27 pm27 cd27 ct27 : Value} (a27 : PySem.W.nsIn K mainGlobals "_law_fraction" = some (some (.ref f27)))
    (l27 : K.lookup f27 = some ⟨oc27, od27, .func (PySem.W.fnOf "_law_fraction" "_law_fraction" (defArgs s27) (defBody s27) (defScope s27) .none kV27 dc27 pm27 an27 cd27 ct27), sl27⟩) (c27 : PySem.W.codeIn K cd27 "_law_fraction" = true) (k27 : PySem.W.keepIn K (.ref f27) = true)
    {f28 : Addr} {od28 an28 : Option Addr} {sl28 : Array (Option Value)} {oc28 kV28 dc28 pm28 cd28 ct28 : Value} (a28 : PySem.W.nsIn K mainGlobals "_law_sum" = some (some (.ref f28)))
    (l28 : K.lookup f28 = some ⟨oc28, od28, .func (PySem.W.fnOf "_law_sum" "_law_sum" (defArgs s28) (defBody s28) (defScope s28) .none kV28 dc28 pm28 an28 cd28 ct28), sl28⟩) (c28 : PySem.W.codeIn K cd28 "_law_sum" = true) (k28 : PySem.W.keepIn K (.ref f28) = true)
    {f29 : Addr} {od29 an29 : Option Addr} {sl29 : Array (Option Value)} {oc29 kV29 dc29 pm29 cd29 ct29 : Value} (a29 : PySem.W.nsIn K mainGlobals "_law_times" = some (some (.ref f29)))
    (l29 : K.lookup f29 = some ⟨oc29, od29, .func (PySem.W.fnOf "_law_times" "_law_times" (defArgs s29) (defBody s29) (defScope s29) .none kV29 dc29 pm29 an29 cd29 ct29), sl29⟩) (c29 : PySem.W.codeIn K cd29 "_law_times" = true) (k29 : PySem.W.keepIn K (.ref f29) = true)
    {f30 : Addr} {od30 an30 : Option Addr} {sl30 : Array (Option Value)} {oc30 kV30 dc30 pm30 cd30 ct30 : Value} (a30 : PySem.W.nsIn K mainGlobals "_law_less" = some (some (.ref f30)))
    (l30 : K.lookup f30 = some ⟨oc30, od30, .func (PySem.W.fnOf "_law_less" "_law_less" (defArgs s30) (defBody s30) (defScope s30) .none kV30 dc30 pm30 an30 cd30 ct30), sl30⟩) (c30 : PySem.W.codeIn K cd30 "_law_less" = true) (k30 : PySem.W.keepIn K (.ref f30) = true)
    {f31 : Addr} {od31 an31 : Option Addr} {sl31 : Array (Option Value)} {oc31 kV31 dc31 pm31 cd31 ct31 : Value} (a31 : PySem.W.nsIn K mainGlobals "_law_below" = some (some (.ref f31)))
    (l31 : K.lookup f31 = some ⟨oc31, od31, .func (PySem.W.fnOf "_law_below" "_law_below" (defArgs s31) (defBody s31) (defScope s31) .none kV31 dc31 pm31 an31 cd31 ct31), sl31⟩) (c31 : PySem.W.codeIn K cd31 "_law_below" = true) (k31 : PySem.W.keepIn K (.ref f31) = true)
    {f32 : Addr} {od32 an32 : Option Addr} {sl32 : Array (Option Value)} {oc32 kV32 dc32 pm32 cd32 ct32 : Value} (a32 : PySem.W.nsIn K mainGlobals "_law_over" = some (some (.ref f32)))
    (l32 : K.lookup f32 = some ⟨oc32, od32, .func (PySem.W.fnOf "_law_over" "_law_over" (defArgs s32) (defBody s32) (defScope s32) .none kV32 dc32 pm32 an32 cd32 ct32), sl32⟩) (c32 : PySem.W.codeIn K cd32 "_law_over" = true) (k32 : PySem.W.keepIn K (.ref f32) = true)
    {f33 : Addr} {od33 an33 : Option Addr} {sl33 : Array (Option Value)} {oc33 kV33 dc33 pm33 cd33 ct33 : Value} (a33 : PySem.W.nsIn K mainGlobals "_law_least" = some (some (.ref f33)))
    (l33 : K.lookup f33 = some ⟨oc33, od33, .func (PySem.W.fnOf "_law_least" "_law_least" (defArgs s33) (defBody s33) (defScope s33) .none kV33 dc33 pm33 an33 cd33 ct33), sl33⟩) (c33 : PySem.W.codeIn K cd33 "_law_least" = true) (k33 : PySem.W.keepIn K (.ref f33) = true)
    {f34 : Addr} {od34 an34 : Option Addr} {sl34 : Array (Option Value)} {oc34 kV34 dc34 pm34 cd34 ct34 : Value} (a34 : PySem.W.nsIn K mainGlobals "_law_most" = some (some (.ref f34)))
    (l34 : K.lookup f34 = some ⟨oc34, od34, .func (PySem.W.fnOf "_law_most" "_law_most" (defArgs s34) (defBody s34) (defScope s34) .none kV34 dc34 pm34 an34 cd34 ct34), sl34⟩) (c34 : PySem.W.codeIn K cd34 "_law_most" = true) (k34 : PySem.W.keepIn K (.ref f34) = true)
    {f35 : Addr} {od35 an35 : Option Addr} {sl35 : Array (Option Value)} {oc35 kV35 dc35 pm35 cd35 ct35 : Value} (a35 : PySem.W.nsIn K mainGlobals "_law_sorted" = some (some (.ref f35)))
    (l35 : K.lookup f35 = some ⟨oc35, od35, .func (PySem.W.fnOf "_law_sorted" "_law_sorted" (defArgs s35) (defBody s35) (defScope s35) .none kV35 dc35 pm35 an35 cd35 ct35), sl35⟩) (c35 : PySem.W.codeIn K cd35 "_law_sorted" = true) (k35 : PySem.W.keepIn K (.ref f35) = true)
    {f36 : Addr} {od36 an36 : Option Addr} {sl36 : Array (Option Value)} {oc36 kV36 dc36 pm36 cd36 ct36 : Value} (a36 : PySem.W.nsIn K mainGlobals "_law_spot" = some (some (.ref f36)))
    (l36 : K.lookup f36 = some ⟨oc36, od36, .func (PySem.W.fnOf "_law_spot" "_law_spot" (defArgs s36) (defBody s36) (defScope s36) .none kV36 dc36 pm36 an36 cd36 ct36), sl36⟩) (c36 : PySem.W.codeIn K cd36 "_law_spot" = true) (k36 : PySem.W.keepIn K (.ref f36) = true)
    {f37 : Addr} {od37 an37 : Option Addr} {sl37 : Array (Option Value)} {oc37 kV37 dc37 pm37 cd37 ct37 : Value} (a37 : PySem.W.nsIn K mainGlobals "_law_is_above" = some (some (.ref f37)))
    (l37 : K.lookup f37 = some ⟨oc37, od37, .func (PySem.W.fnOf "_law_is_above" "_law_is_above" (defArgs s37) (defBody s37) (defScope s37) .none kV37 dc37 pm37 an37 cd37 ct37), sl37⟩) (c37 : PySem.W.codeIn K cd37 "_law_is_above" = true) (k37 : PySem.W.keepIn K (.ref f37) = true)
    {f38 : Addr} {od38 an38 : Option Addr} {sl38 : Array (Option Value)} {oc38 kV38 dc38 pm38 cd38 ct38 : Value} (a38 : PySem.W.nsIn K mainGlobals "_law_sees" = some (some (.ref f38)))
    (l38 : K.lookup f38 = some ⟨oc38, od38, .func (PySem.W.fnOf "_law_sees" "_law_sees" (defArgs s38) (defBody s38) (defScope s38) .none kV38 dc38 pm38 an38 cd38 ct38), sl38⟩) (c38 : PySem.W.codeIn K cd38 "_law_sees" = true) (k38 : PySem.W.keepIn K (.ref f38) = true)
    {f39 : Addr} {od39 an39 : Option Addr} {sl39 : Array (Option Value)} {oc39 kV39 dc39 pm39 cd39 ct39 : Value} (a39 : PySem.W.nsIn K mainGlobals "_law_reach" = some (some (.ref f39)))
    (l39 : K.lookup f39 = some ⟨oc39, od39, .func (PySem.W.fnOf "_law_reach" "_law_reach" (defArgs s39) (defBody s39) (defScope s39) .none kV39 dc39 pm39 an39 cd39 ct39), sl39⟩) (c39 : PySem.W.codeIn K cd39 "_law_reach" = true) (k39 : PySem.W.keepIn K (.ref f39) = true)
    {f40 : Addr} {od40 an40 : Option Addr} {sl40 : Array (Option Value)} {oc40 kV40 dc40 pm40 cd40 ct40 : Value} (a40 : PySem.W.nsIn K mainGlobals "_law_draw_ridge" = some (some (.ref f40)))
    (l40 : K.lookup f40 = some ⟨oc40, od40, .func (PySem.W.fnOf "_law_draw_ridge" "_law_draw_ridge" (defArgs s40) (defBody s40) (defScope s40) .none kV40 dc40 pm40 an40 cd40 ct40), sl40⟩) (c40 : PySem.W.codeIn K cd40 "_law_draw_ridge" = true) (k40 : PySem.W.keepIn K (.ref f40) = true)
    {f41 : Addr} {od41 an41 : Option Addr} {sl41 : Array (Option Value)} {oc41 kV41 dc41 pm41 cd41 ct41 : Value} (a41 : PySem.W.nsIn K mainGlobals "_law_draw_height" = some (some (.ref f41)))
    (l41 : K.lookup f41 = some ⟨oc41, od41, .func (PySem.W.fnOf "_law_draw_height" "_law_draw_height" (defArgs s41) (defBody s41) (defScope s41) .none kV41 dc41 pm41 an41 cd41 ct41), sl41⟩) (c41 : PySem.W.codeIn K cd41 "_law_draw_height" = true) (k41 : PySem.W.keepIn K (.ref f41) = true)
    {f42 : Addr} {od42 an42 : Option Addr} {sl42 : Array (Option Value)} {oc42 kV42 dc42 pm42 cd42 ct42 : Value} (a42 : PySem.W.nsIn K mainGlobals "_law_draw_place" = some (some (.ref f42)))
    (l42 : K.lookup f42 = some ⟨oc42, od42, .func (PySem.W.fnOf "_law_draw_place" "_law_draw_place" (defArgs s42) (defBody s42) (defScope s42) .none kV42 dc42 pm42 an42 cd42 ct42), sl42⟩) (c42 : PySem.W.codeIn K cd42 "_law_draw_place" = true) (k42 : PySem.W.keepIn K (.ref f42) = true)
    {f43 : Addr} {od43 an43 : Option Addr} {sl43 : Array (Option Value)} {oc43 kV43 dc43 pm43 cd43 ct43 : Value} (a43 : PySem.W.nsIn K mainGlobals "_law_draw_ground" = some (some (.ref f43)))
    (l43 : K.lookup f43 = some ⟨oc43, od43, .func (PySem.W.fnOf "_law_draw_ground" "_law_draw_ground" (defArgs s43) (defBody s43) (defScope s43) .none kV43 dc43 pm43 an43 cd43 ct43), sl43⟩) (c43 : PySem.W.codeIn K cd43 "_law_draw_ground" = true) (k43 : PySem.W.keepIn K (.ref f43) = true)
    {f44 : Addr} {od44 an44 : Option Addr} {sl44 : Array (Option Value)} {oc44 kV44 dc44 pm44 cd44 ct44 : Value} (a44 : PySem.W.nsIn K mainGlobals "law" = some (some (.ref f44)))
    (l44 : K.lookup f44 = some ⟨oc44, od44, .func (PySem.W.fnOf "law" "law" (defArgs s44) (defBody s44) (defScope s44) .none kV44 dc44 pm44 an44 cd44 ct44), sl44⟩) (c44 : PySem.W.codeIn K cd44 "law" = true) (k44 : PySem.W.keepIn K (.ref f44) = true)
    {fO : Addr} {odO anO : Option Addr} {slO : Array (Option Value)} {ocO kVO dcO pmO cdO ctO : Value} (aO : PySem.W.nsIn K mainGlobals "_law_open_cells" = some (some (.ref fO)))
    (lO : K.lookup fO = some ⟨ocO, odO, .func (PySem.W.fnOf "_law_open_cells" "_law_open_cells" (defArgs sOpen) (defBody sOpen) (defScope sOpen) .none kVO dcO pmO anO cdO ctO), slO⟩) (cO : PySem.W.codeIn K cdO "_law_open_cells" = true) (kO : PySem.W.keepIn K (.ref fO) = true)
    {fP : Addr} {odP anP : Option Addr} {slP : Array (Option Value)} {ocP kVP dcP pmP cdP ctP : Value} (aP : PySem.W.nsIn K mainGlobals "_law_pick" = some (some (.ref fP)))
    (lP : K.lookup fP = some ⟨ocP, odP, .func (PySem.W.fnOf "_law_pick" "_law_pick" (defArgs sPick) (defBody sPick) (defScope sPick) .none kVP dcP pmP anP cdP ctP), slP⟩) (cP : PySem.W.codeIn K cdP "_law_pick" = true) (kP : PySem.W.keepIn K (.ref fP) = true)
    (z_len : PySem.W.nsIn K mainGlobals "len" = some none)
    (z_abs : PySem.W.nsIn K mainGlobals "abs" = some none)
    (z_int : PySem.W.nsIn K mainGlobals "int" = some none)
    (z_bool : PySem.W.nsIn K mainGlobals "bool" = some none)
    (z_max : PySem.W.nsIn K mainGlobals "max" = some none)
    (z_min : PySem.W.nsIn K mainGlobals "min" = some none)
    (z_any : PySem.W.nsIn K mainGlobals "any" = some none)
    (z_all : PySem.W.nsIn K mainGlobals "all" = some none)
    (z_tuple : PySem.W.nsIn K mainGlobals "tuple" = some none)
    (z_list : PySem.W.nsIn K mainGlobals "list" = some none)
    (z_sum : PySem.W.nsIn K mainGlobals "sum" = some none)
    (z_repr : PySem.W.nsIn K mainGlobals "repr" = some none)
    (z_isinstance : PySem.W.nsIn K mainGlobals "isinstance" = some none)
    (z_range : PySem.W.nsIn K mainGlobals "range" = some none)
    (z_enumerate : PySem.W.nsIn K mainGlobals "enumerate" = some none)
    (z_zip : PySem.W.nsIn K mainGlobals "zip" = some none)
    (z_dict : PySem.W.nsIn K mainGlobals "dict" = some none)
    : ∃ fd : FuncData, (∀ (s : Shared) (v : Value), BindsTo s fd ⟨[v], []⟩ [("script", v)]) ∧ ∀ base : Heap, K.In base → base.Ns mainGlobals mg → Cr.FnG l.prog w K mg base 22 fa fd ["script"] (spLaw K) := by
  have e := hfa.symm.trans (PySem.W.mg_of X N a44)
  have e2 : f44 = fa := by cases e; rfl
  subst e2
  have F0 := fun_mk (st := s0) l0 c0 k0
  have B0 := F0.binds (ps := ["value"]) fun _ _ _ _ _ _ us hl => match us, hl with | [_], _ => rfl
  have F1 := fun_mk (st := s1) l1 c1 k1
  have B1 := F1.binds (ps := ["one", "other"]) fun _ _ _ _ _ _ us hl => match us, hl with | [_, _], _ => rfl
  have F2 := fun_mk (st := s2) l2 c2 k2
  have B2 := F2.binds (ps := ["value"]) fun _ _ _ _ _ _ us hl => match us, hl with | [_], _ => rfl
  have F3 := fun_mk (st := s3) l3 c3 k3
  have B3 := F3.binds (ps := ["u", "e"]) fun _ _ _ _ _ _ us hl => match us, hl with | [_, _], _ => rfl
  have F4 := fun_mk (st := s4) l4 c4 k4
  have B4 := F4.binds (ps := ["x", "y"]) fun _ _ _ _ _ _ us hl => match us, hl with | [_, _], _ => rfl
  have F5 := fun_mk (st := s5) l5 c5 k5
  have B5 := F5.binds (ps := ["x", "y"]) fun _ _ _ _ _ _ us hl => match us, hl with | [_, _], _ => rfl
  have F6 := fun_mk (st := s6) l6 c6 k6
  have B6 := F6.binds (ps := ["x", "y"]) fun _ _ _ _ _ _ us hl => match us, hl with | [_, _], _ => rfl
  have F7 := fun_mk (st := s7) l7 c7 k7
  have B7 := F7.binds (ps := ["x", "y"]) fun _ _ _ _ _ _ us hl => match us, hl with | [_, _], _ => rfl
  have F8 := fun_mk (st := s8) l8 c8 k8
  have B8 := F8.binds (ps := ["x", "y"]) fun _ _ _ _ _ _ us hl => match us, hl with | [_, _], _ => rfl
  have F9 := fun_mk (st := s9) l9 c9 k9
  have B9 := F9.binds (ps := ["some"]) fun _ _ _ _ _ _ us hl => match us, hl with | [_], _ => rfl
  have F10 := fun_mk (st := s10) l10 c10 k10
  have B10 := F10.binds (ps := ["some"]) fun _ _ _ _ _ _ us hl => match us, hl with | [_], _ => rfl
  have F11 := fun_mk (st := s11) l11 c11 k11
  have B11 := F11.binds (ps := ["x", "y", "t"]) fun _ _ _ _ _ _ us hl => match us, hl with | [_, _, _], _ => rfl
  have F12 := fun_mk (st := s12) l12 c12 k12
  have B12 := F12.binds (ps := ["a", "b", "x"]) fun _ _ _ _ _ _ us hl => match us, hl with | [_, _, _], _ => rfl
  have F13 := fun_mk (st := s13) l13 c13 k13
  have B13 := F13.binds (ps := ["a", "b", "y"]) fun _ _ _ _ _ _ us hl => match us, hl with | [_, _, _], _ => rfl
  have F14 := fun_mk (st := s14) l14 c14 k14
  have B14 := F14.binds (ps := ["a", "b", "t"]) fun _ _ _ _ _ _ us hl => match us, hl with | [_, _, _], _ => rfl
  have F15 := fun_mk (st := s15) l15 c15 k15
  have B15 := F15.binds (ps := ["value", "least", "greatest"]) fun _ _ _ _ _ _ us hl => match us, hl with | [_, _, _], _ => rfl
  have F16 := fun_mk (st := s16) l16 c16 k16
  have B16 := F16.binds (ps := ["ridge", "ground"]) fun _ _ _ _ _ _ us hl => match us, hl with | [_, _], _ => rfl
  have F17 := fun_mk (st := s17) l17 c17 k17
  have B17 := F17.binds (ps := ["ridge"]) fun _ _ _ _ _ _ us hl => match us, hl with | [_], _ => rfl
  have F18 := fun_mk (st := s18) l18 c18 k18
  have B18 := F18.binds (ps := ["ridge", "value"]) fun _ _ _ _ _ _ us hl => match us, hl with | [_, _], _ => rfl
  have F19 := fun_mk (st := s19) l19 c19 k19
  have B19 := F19.binds (ps := ["x", "y"]) fun _ _ _ _ _ _ us hl => match us, hl with | [_, _], _ => rfl
  have F20 := fun_mk (st := s20) l20 c20 k20
  have B20 := F20.binds (ps := ["ridge", "h", "x", "g"]) fun _ _ _ _ _ _ us hl => match us, hl with | [_, _, _, _], _ => rfl
  have F21 := fun_mk (st := s21) l21 c21 k21
  have B21 := F21.binds (ps := ["ridge", "h", "x", "g"]) fun _ _ _ _ _ _ us hl => match us, hl with | [_, _, _, _], _ => rfl
  have F22 := fun_mk (st := s22) l22 c22 k22
  have B22 := F22.binds (ps := ["ridge", "h", "drones", "g"]) fun _ _ _ _ _ _ us hl => match us, hl with | [_, _, _, _], _ => rfl
  have F23 := fun_mk (st := s23) l23 c23 k23
  have B23 := F23.binds (ps := ["ridge", "h", "g"]) fun _ _ _ _ _ _ us hl => match us, hl with | [_, _, _], _ => rfl
  have F24 := fun_mk (st := s24) l24 c24 k24
  have B24 := F24.binds (ps := ["ridge", "h", "g"]) fun _ _ _ _ _ _ us hl => match us, hl with | [_, _, _], _ => rfl
  have F25 := fun_mk (st := s25) l25 c25 k25
  have B25 := F25.binds (ps := ["ridge", "h", "spots"]) fun _ _ _ _ _ _ us hl => match us, hl with | [_, _, _], _ => rfl
  have F26 := fun_mk (st := s26) l26 c26 k26
  have B26 := F26.binds (ps := ["a", "b"]) fun _ _ _ _ _ _ us hl => match us, hl with | [_, _], _ => rfl
  have F27 := fun_mk (st := s27) l27 c27 k27
  have B27 := F27.binds (ps := ["u", "d"]) fun _ _ _ _ _ _ us hl => match us, hl with | [_, _], _ => rfl
  have F28 := fun_mk (st := s28) l28 c28 k28
  have B28 := F28.binds (ps := ["x", "y"]) fun _ _ _ _ _ _ us hl => match us, hl with | [_, _], _ => rfl
  have F29 := fun_mk (st := s29) l29 c29 k29
  have B29 := F29.binds (ps := ["x", "y"]) fun _ _ _ _ _ _ us hl => match us, hl with | [_, _], _ => rfl
  have F30 := fun_mk (st := s30) l30 c30 k30
  have B30 := F30.binds (ps := ["x", "y"]) fun _ _ _ _ _ _ us hl => match us, hl with | [_, _], _ => rfl
  have F31 := fun_mk (st := s31) l31 c31 k31
  have B31 := F31.binds (ps := ["x", "y"]) fun _ _ _ _ _ _ us hl => match us, hl with | [_, _], _ => rfl
  have F32 := fun_mk (st := s32) l32 c32 k32
  have B32 := F32.binds (ps := ["x", "y"]) fun _ _ _ _ _ _ us hl => match us, hl with | [_, _], _ => rfl
  have F33 := fun_mk (st := s33) l33 c33 k33
  have B33 := F33.binds (ps := ["fractions"]) fun _ _ _ _ _ _ us hl => match us, hl with | [_], _ => rfl
  have F34 := fun_mk (st := s34) l34 c34 k34
  have B34 := F34.binds (ps := ["fractions"]) fun _ _ _ _ _ _ us hl => match us, hl with | [_], _ => rfl
  have F35 := fun_mk (st := s35) l35 c35 k35
  have B35 := F35.binds (ps := ["fractions"]) fun _ _ _ _ _ _ us hl => match us, hl with | [_], _ => rfl
  have F36 := fun_mk (st := s36) l36 c36 k36
  have B36 := F36.binds (ps := ["ridge", "i", "t"]) fun _ _ _ _ _ _ us hl => match us, hl with | [_, _, _], _ => rfl
  have F37 := fun_mk (st := s37) l37 c37 k37
  have B37 := F37.binds (ps := ["one", "other", "spot"]) fun _ _ _ _ _ _ us hl => match us, hl with | [_, _, _], _ => rfl
  have F38 := fun_mk (st := s38) l38 c38 k38
  have B38 := F38.binds (ps := ["ridge", "height", "x", "spot"]) fun _ _ _ _ _ _ us hl => match us, hl with | [_, _, _, _], _ => rfl
  have F39 := fun_mk (st := s39) l39 c39 k39
  have B39 := F39.binds (ps := ["ridge", "height", "spot"]) fun _ _ _ _ _ _ us hl => match us, hl with | [_, _, _], _ => rfl
  have F40 := fun_mk (st := s40) l40 c40 k40
  have B40 := F40.binds (ps := ["source", "most"]) fun _ _ _ _ _ _ us hl => match us, hl with | [_, _], _ => rfl
  have F41 := fun_mk (st := s41) l41 c41 k41
  have B41 := F41.binds (ps := ["source", "ridge"]) fun _ _ _ _ _ _ us hl => match us, hl with | [_, _], _ => rfl
  have F42 := fun_mk (st := s42) l42 c42 k42
  have B42 := F42.binds (ps := ["source", "ridge"]) fun _ _ _ _ _ _ us hl => match us, hl with | [_, _], _ => rfl
  have F43 := fun_mk (st := s43) l43 c43 k43
  have B43 := F43.binds (ps := ["source", "ridge"]) fun _ _ _ _ _ _ us hl => match us, hl with | [_, _], _ => rfl
  have F44 := fun_mk (st := s44) l44 c44 k44
  have B44 := F44.binds (ps := ["script"]) fun _ _ _ _ _ _ us hl => match us, hl with | [_], _ => rfl
  have FO := fun_mk (st := sOpen) lO cO kO
  have BO := FO.binds (ps := ["script"]) fun _ _ _ _ _ _ us hl => match us, hl with | [_], _ => rfl
  have FP := fun_mk (st := sPick) lP cP kP
  have BP := FP.binds (ps := ["source", "most"]) fun _ _ _ _ _ _ us hl => match us, hl with | [_, _], _ => rfl
  refine ⟨PySem.W.fnOf "law" "law" (defArgs s44) (defBody s44) (defScope s44) .none kV44 dc44 pm44 an44 cd44 ct44, fun s v => .of_eq rfl, fun base _ _ => ?_⟩
  have bs : Cr.Base l.prog w K mg base G := by
    refine ⟨ok_all, List.forall_mem_cons.mpr ⟨⟨f0, _, F0, PySem.W.mg_of X N a0, B0⟩, List.forall_mem_cons.mpr ⟨⟨f1, _, F1, PySem.W.mg_of X N a1, B1⟩, List.forall_mem_cons.mpr ⟨⟨f2, _, F2, PySem.W.mg_of X N a2, B2⟩, List.forall_mem_cons.mpr ⟨⟨f3, _, F3, PySem.W.mg_of X N a3, B3⟩, List.forall_mem_cons.mpr ⟨⟨f4, _, F4, PySem.W.mg_of X N a4, B4⟩, List.forall_mem_cons.mpr ⟨⟨f5, _, F5, PySem.W.mg_of X N a5, B5⟩, List.forall_mem_cons.mpr ⟨⟨f6, _, F6, PySem.W.mg_of X N a6, B6⟩, List.forall_mem_cons.mpr ⟨⟨f7, _, F7, PySem.W.mg_of X N a7, B7⟩, List.forall_mem_cons.mpr ⟨⟨f8, _, F8, PySem.W.mg_of X N a8, B8⟩, List.forall_mem_cons.mpr ⟨⟨f9, _, F9, PySem.W.mg_of X N a9, B9⟩, List.forall_mem_cons.mpr ⟨⟨f10, _, F10, PySem.W.mg_of X N a10, B10⟩, List.forall_mem_cons.mpr ⟨⟨f11, _, F11, PySem.W.mg_of X N a11, B11⟩, List.forall_mem_cons.mpr ⟨⟨f12, _, F12, PySem.W.mg_of X N a12, B12⟩, List.forall_mem_cons.mpr ⟨⟨f13, _, F13, PySem.W.mg_of X N a13, B13⟩, List.forall_mem_cons.mpr ⟨⟨f14, _, F14, PySem.W.mg_of X N a14, B14⟩, List.forall_mem_cons.mpr ⟨⟨f15, _, F15, PySem.W.mg_of X N a15, B15⟩, List.forall_mem_cons.mpr ⟨⟨f16, _, F16, PySem.W.mg_of X N a16, B16⟩, List.forall_mem_cons.mpr ⟨⟨f17, _, F17, PySem.W.mg_of X N a17, B17⟩, List.forall_mem_cons.mpr ⟨⟨f18, _, F18, PySem.W.mg_of X N a18, B18⟩, List.forall_mem_cons.mpr ⟨⟨f19, _, F19, PySem.W.mg_of X N a19, B19⟩, List.forall_mem_cons.mpr ⟨⟨f20, _, F20, PySem.W.mg_of X N a20, B20⟩, List.forall_mem_cons.mpr ⟨⟨f21, _, F21, PySem.W.mg_of X N a21, B21⟩, List.forall_mem_cons.mpr ⟨⟨f22, _, F22, PySem.W.mg_of X N a22, B22⟩, List.forall_mem_cons.mpr ⟨⟨f23, _, F23, PySem.W.mg_of X N a23, B23⟩, List.forall_mem_cons.mpr ⟨⟨f24, _, F24, PySem.W.mg_of X N a24, B24⟩, List.forall_mem_cons.mpr ⟨⟨f25, _, F25, PySem.W.mg_of X N a25, B25⟩, List.forall_mem_cons.mpr ⟨⟨f26, _, F26, PySem.W.mg_of X N a26, B26⟩, List.forall_mem_cons.mpr ⟨⟨f27, _, F27, PySem.W.mg_of X N a27, B27⟩, List.forall_mem_cons.mpr ⟨⟨f28, _, F28, PySem.W.mg_of X N a28, B28⟩, List.forall_mem_cons.mpr ⟨⟨f29, _, F29, PySem.W.mg_of X N a29, B29⟩, List.forall_mem_cons.mpr ⟨⟨f30, _, F30, PySem.W.mg_of X N a30, B30⟩, List.forall_mem_cons.mpr ⟨⟨f31, _, F31, PySem.W.mg_of X N a31, B31⟩, List.forall_mem_cons.mpr ⟨⟨f32, _, F32, PySem.W.mg_of X N a32, B32⟩, List.forall_mem_cons.mpr ⟨⟨f33, _, F33, PySem.W.mg_of X N a33, B33⟩, List.forall_mem_cons.mpr ⟨⟨f34, _, F34, PySem.W.mg_of X N a34, B34⟩, List.forall_mem_cons.mpr ⟨⟨f35, _, F35, PySem.W.mg_of X N a35, B35⟩, List.forall_mem_cons.mpr ⟨⟨f36, _, F36, PySem.W.mg_of X N a36, B36⟩, List.forall_mem_cons.mpr ⟨⟨f37, _, F37, PySem.W.mg_of X N a37, B37⟩, List.forall_mem_cons.mpr ⟨⟨f38, _, F38, PySem.W.mg_of X N a38, B38⟩, List.forall_mem_cons.mpr ⟨⟨f39, _, F39, PySem.W.mg_of X N a39, B39⟩, List.forall_mem_cons.mpr ⟨⟨f40, _, F40, PySem.W.mg_of X N a40, B40⟩, List.forall_mem_cons.mpr ⟨⟨f41, _, F41, PySem.W.mg_of X N a41, B41⟩, List.forall_mem_cons.mpr ⟨⟨f42, _, F42, PySem.W.mg_of X N a42, B42⟩, List.forall_mem_cons.mpr ⟨⟨f43, _, F43, PySem.W.mg_of X N a43, B43⟩, List.forall_mem_cons.mpr ⟨⟨f44, _, F44, PySem.W.mg_of X N a44, B44⟩, List.forall_mem_nil _⟩⟩⟩⟩⟩⟩⟩⟩⟩⟩⟩⟩⟩⟩⟩⟩⟩⟩⟩⟩⟩⟩⟩⟩⟩⟩⟩⟩⟩⟩⟩⟩⟩⟩⟩⟩⟩⟩⟩⟩⟩⟩⟩⟩⟩, ⟨fP, _, _, pick_ok FP (PySem.W.mg_none_of X N z_len) (PySem.W.mg_none_of X N z_int), PySem.W.mg_of X N aP, kP, BP⟩, ⟨fO, _, _, open_ok FO (PySem.W.mg_none_of X N z_abs) (PySem.W.mg_none_of X N z_int), PySem.W.mg_of X N aO, kO, BO⟩, fun b => ?_, PySem.W.mg_none_of X N z_range, PySem.W.mg_none_of X N z_enumerate, PySem.W.mg_none_of X N z_zip, PySem.W.mg_none_of X N z_dict⟩
    cases b with
    | len => exact PySem.W.mg_none_of X N z_len
    | abs => exact PySem.W.mg_none_of X N z_abs
    | int => exact PySem.W.mg_none_of X N z_int
    | bool => exact PySem.W.mg_none_of X N z_bool
    | mx => exact PySem.W.mg_none_of X N z_max
    | mn => exact PySem.W.mg_none_of X N z_min
    | any => exact PySem.W.mg_none_of X N z_any
    | all => exact PySem.W.mg_none_of X N z_all
    | tuple => exact PySem.W.mg_none_of X N z_tuple
    | list => exact PySem.W.mg_none_of X N z_list
    | sum => exact PySem.W.mg_none_of X N z_sum
    | repr => exact PySem.W.mg_none_of X N z_repr
    | isInt => exact PySem.W.mg_none_of X N z_isinstance
    | isBool => exact PySem.W.mg_none_of X N z_isinstance
    | isTup => exact PySem.W.mg_none_of X N z_isinstance
    | isList => exact PySem.W.mg_none_of X N z_isinstance
    | keys => exact PySem.W.mg_none_of X N z_list
  exact law_ok bs (i := 44) (e := e44) rfl ⟨F44, PySem.W.mg_of X N a44, B44⟩ hlaw
end Lw
open PySem PySem.W PyProof.Rows
set_option maxRecDepth 100000 in
set_option maxHeartbeats 0 in
theorem PySem.Challenge.cw_ridgewatch_k32_whole_sights_and_reaches_holds : PySem.Challenge.rw_ridgewatch_k32_whole_sights_and_reaches.Holds := by
  w_on; o_law; k_head; (case hw => w_witness2)
  k_fill
  refine Cr.walk_g (l := PySem.Challenge.rw_ridgewatch_k32_whole_sights_and_reaches) (n := 63) (k := 22) (x := "script") (sp := fun w => Cr.spLaw _) rfl (by decide) rfl ⟨rfl, by decide, by decide⟩ (fun w h Y => PySem.W.kIn_of Y) ?F (fun _ _ a ns hl _ hS => ⟨a, ns, rfl, hS, hl, fun _ => rfl⟩)
  case F =>
    intro w mg fa h KX N hmg
    refine' Lw.all_mk Lw.law_true KX N hmg ?a0 ?l0 ?c0 ?k0 ?a1 ?l1 ?c1 ?k1 ?a2 ?l2 ?c2 ?k2 ?a3 ?l3 ?c3 ?k3 ?a4 ?l4 ?c4 ?k4 ?a5 ?l5 ?c5 ?k5 ?a6 ?l6 ?c6 ?k6 ?a7 ?l7 ?c7 ?k7 ?a8 ?l8 ?c8 ?k8 ?a9 ?l9 ?c9 ?k9 ?a10 ?l10 ?c10 ?k10 ?a11 ?l11 ?c11 ?k11 ?a12 ?l12 ?c12 ?k12 ?a13 ?l13 ?c13 ?k13 ?a14 ?l14 ?c14 ?k14 ?a15 ?l15 ?c15 ?k15 ?a16 ?l16 ?c16 ?k16 ?a17 ?l17 ?c17 ?k17 ?a18 ?l18 ?c18 ?k18 ?a19 ?l19 ?c19 ?k19 ?a20 ?l20 ?c20 ?k20 ?a21 ?l21 ?c21 ?k21 ?a22 ?l22 ?c22 ?k22 ?a23 ?l23 ?c23 ?k23 ?a24 ?l24 ?c24 ?k24 ?a25 ?l25 ?c25 ?k25 ?a26 ?l26 ?c26 ?k26 ?a27 ?l27 ?c27 ?k27 ?a28 ?l28 ?c28 ?k28 ?a29 ?l29 ?c29 ?k29 ?a30 ?l30 ?c30 ?k30 ?a31 ?l31 ?c31 ?k31 ?a32 ?l32 ?c32 ?k32 ?a33 ?l33 ?c33 ?k33 ?a34 ?l34 ?c34 ?k34 ?a35 ?l35 ?c35 ?k35 ?a36 ?l36 ?c36 ?k36 ?a37 ?l37 ?c37 ?k37 ?a38 ?l38 ?c38 ?k38 ?a39 ?l39 ?c39 ?k39 ?a40 ?l40 ?c40 ?k40 ?a41 ?l41 ?c41 ?k41 ?a42 ?l42 ?c42 ?k42 ?a43 ?l43 ?c43 ?k43 ?a44 ?l44 ?c44 ?k44 ?aO ?lO ?cO ?kO ?aP ?lP ?cP ?kP ?z_len ?z_abs ?z_int ?z_bool ?z_max ?z_min ?z_any ?z_all ?z_tuple ?z_list ?z_sum ?z_repr ?z_isinstance ?z_range ?z_enumerate ?z_zip ?z_dict
    (case a0 => k_is); (case l0 => k_is); (case c0 => k_is); (case k0 => k_is); (case a1 => k_is); (case l1 => k_is)
    (case c1 => k_is); (case k1 => k_is); (case a2 => k_is); (case l2 => k_is); (case c2 => k_is); (case k2 => k_is)
    (case a3 => k_is); (case l3 => k_is); (case c3 => k_is); (case k3 => k_is); (case a4 => k_is); (case l4 => k_is)
    (case c4 => k_is); (case k4 => k_is); (case a5 => k_is); (case l5 => k_is); (case c5 => k_is); (case k5 => k_is)
    (case a6 => k_is); (case l6 => k_is); (case c6 => k_is); (case k6 => k_is); (case a7 => k_is); (case l7 => k_is)
    (case c7 => k_is); (case k7 => k_is); (case a8 => k_is); (case l8 => k_is); (case c8 => k_is); (case k8 => k_is)
    (case a9 => k_is); (case l9 => k_is); (case c9 => k_is); (case k9 => k_is); (case a10 => k_is); (case l10 => k_is)
    (case c10 => k_is); (case k10 => k_is); (case a11 => k_is); (case l11 => k_is); (case c11 => k_is); (case k11 => k_is)
    (case a12 => k_is); (case l12 => k_is); (case c12 => k_is); (case k12 => k_is); (case a13 => k_is); (case l13 => k_is)
    (case c13 => k_is); (case k13 => k_is); (case a14 => k_is); (case l14 => k_is); (case c14 => k_is); (case k14 => k_is)
    (case a15 => k_is); (case l15 => k_is); (case c15 => k_is); (case k15 => k_is); (case a16 => k_is); (case l16 => k_is)
    (case c16 => k_is); (case k16 => k_is); (case a17 => k_is); (case l17 => k_is); (case c17 => k_is); (case k17 => k_is)
    (case a18 => k_is); (case l18 => k_is); (case c18 => k_is); (case k18 => k_is); (case a19 => k_is); (case l19 => k_is)
    (case c19 => k_is); (case k19 => k_is); (case a20 => k_is); (case l20 => k_is); (case c20 => k_is); (case k20 => k_is)
    (case a21 => k_is); (case l21 => k_is); (case c21 => k_is); (case k21 => k_is); (case a22 => k_is); (case l22 => k_is)
    (case c22 => k_is); (case k22 => k_is); (case a23 => k_is); (case l23 => k_is); (case c23 => k_is); (case k23 => k_is)
    (case a24 => k_is); (case l24 => k_is); (case c24 => k_is); (case k24 => k_is); (case a25 => k_is); (case l25 => k_is)
    (case c25 => k_is); (case k25 => k_is); (case a26 => k_is); (case l26 => k_is); (case c26 => k_is); (case k26 => k_is)
    (case a27 => k_is); (case l27 => k_is); (case c27 => k_is); (case k27 => k_is); (case a28 => k_is); (case l28 => k_is)
    (case c28 => k_is); (case k28 => k_is); (case a29 => k_is); (case l29 => k_is); (case c29 => k_is); (case k29 => k_is)
    (case a30 => k_is); (case l30 => k_is); (case c30 => k_is); (case k30 => k_is); (case a31 => k_is); (case l31 => k_is)
    (case c31 => k_is); (case k31 => k_is); (case a32 => k_is); (case l32 => k_is); (case c32 => k_is); (case k32 => k_is)
    (case a33 => k_is); (case l33 => k_is); (case c33 => k_is); (case k33 => k_is); (case a34 => k_is); (case l34 => k_is)
    (case c34 => k_is); (case k34 => k_is); (case a35 => k_is); (case l35 => k_is); (case c35 => k_is); (case k35 => k_is)
    (case a36 => k_is); (case l36 => k_is); (case c36 => k_is); (case k36 => k_is); (case a37 => k_is); (case l37 => k_is)
    (case c37 => k_is); (case k37 => k_is); (case a38 => k_is); (case l38 => k_is); (case c38 => k_is); (case k38 => k_is)
    (case a39 => k_is); (case l39 => k_is); (case c39 => k_is); (case k39 => k_is); (case a40 => k_is); (case l40 => k_is)
    (case c40 => k_is); (case k40 => k_is); (case a41 => k_is); (case l41 => k_is); (case c41 => k_is); (case k41 => k_is)
    (case a42 => k_is); (case l42 => k_is); (case c42 => k_is); (case k42 => k_is); (case a43 => k_is); (case l43 => k_is)
    (case c43 => k_is); (case k43 => k_is); (case a44 => k_is); (case l44 => k_is); (case c44 => k_is); (case k44 => k_is)
    (case aO => k_is); (case lO => k_is); (case cO => k_is); (case kO => k_is); (case aP => k_is); (case lP => k_is)
    (case cP => k_is); (case kP => k_is); (case z_len => k_is); (case z_abs => k_is); (case z_int => k_is); (case z_bool => k_is)
    (case z_max => k_is); (case z_min => k_is); (case z_any => k_is); (case z_all => k_is); (case z_tuple => k_is); (case z_list => k_is)
    (case z_sum => k_is); (case z_repr => k_is); (case z_isinstance => k_is); (case z_range => k_is); (case z_enumerate => k_is); (case z_zip => k_is)
    (case z_dict => k_is)
