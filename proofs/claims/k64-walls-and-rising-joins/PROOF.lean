import PyProof.Rows.All
import Wide.All
import OpenK.AllK
import Wide.FinOn
import HandS.ForMost
import HandS.ForExc
import HandS.Lambda
import HandS.TupAny
import HandS.TupMul
import HandS.TupLe
import HandS.Conv
import HandS.IsInst
import HandS.Flow
import KE.DataEq
import KE.DataCmp
import KE.DataMinMax
import KE.SortData
import HandS.Dict
import HandS.DictTup
import KE.DataAny
import KE.DataFind
import HandS.TupLen
import HandS.WordsDict
import HandS.More
import HandS.Comp
import HandS.Iter
import KE.GoesEnum
import HandS.Words
import HandS.DictSubView
import HandS.MapSum
import HandS.Strs
import HandS.TupSets
import HandS.SetFor
import HandS.Zip
import HandS.Keys
import KE.SortKeyHeap
import KE.DataMinKey
import HandS.SetKeys
import HandS.Style
import HandS.Star
import KE.KDictList
import HandS.ExcInit
import HandS.ExcField
import HandS.ExcIs
import KE.KSuper
import KE.KExcSuper
import HandS.ExcSuper
import HandS.HeadHook1
import KE.KDflt
import HandS.Head0
import HandS.Head1
import HandS.Head2
import HandS.HeadEnd
import HandS.HeadHook2
import HandS.Defaults
import HandS.HeadHook3
import HandS.HeadHook4
import HandS.HeadWalk
import PySem.Challenge.RW_joinworks_k64_known_walls_and_rising_joi
set_option Elab.async false
set_option linter.all false
set_option autoImplicit false
set_option maxRecDepth 100000
/-! The evaluator: an IR of the Python subset, values, heap, a fuel evaluator. Written so that the kernel runs it fast: each dispatch goes to closed constants. -/
namespace Jw
open PySem (Str)
noncomputable section

/-- an address: a path from the root -/
abbrev Ad := List Bool
/-- values: tuples are values; lists, dicts, instances stand in the heap -/
inductive W where
  | non | bl (b : Bool) | int (i : Int) | aff (c k : Int) | str (x : Str) | tup (xs : List W) | ref (n : Ad) | glo (k : Nat)
  deriving Inhabited

inductive Er where
  | stuck (c : Nat) | split (at_ : Int) | fuel
  deriving Inhabited, Repr
abbrev EB := Except Er Bool

/-- heap objects -/
inductive O where
  | lst (xs : List W) | dict (t : Bool) (kvs : List (W × W)) | scr | row | ins (c : Nat) (fs : List (Nat × W)) | frd (t : Bool) (kvs : List (W × W))
  deriving Inhabited

inductive Tr where
  | nil | node (v : Option O) (l r : Tr)
  deriving Inhabited
def Ad.inc : Ad → Ad
  | [] => [true]
  | false :: p => true :: p
  | true :: p => false :: Ad.inc p
def Tr.get (t : Tr) (p : Ad) : Option O := List.rec (motive := fun _ => Tr → Option O) (fun t => Tr.casesOn t none fun v _ _ => v) (fun b _ ih t => Tr.casesOn t none fun _ l r => Bool.rec (ih l) (ih r) b) p t
def Tr.set (t : Tr) (p : Ad) (o : O) : Tr := List.rec (motive := fun _ => Tr → Tr) (fun t => Tr.casesOn t (.node (some o) .nil .nil) fun _ l r => .node (some o) l r)
  (fun b _ ih t => Tr.casesOn t (Bool.rec (.node none (ih .nil) .nil) (.node none .nil (ih .nil)) b) fun v l r => Bool.rec (.node v (ih l) r) (.node v l (ih r)) b) p t

/-- the machine's state: the heap -/
structure M where
  next : Ad
  tr : Tr
  deriving Inhabited

abbrev Sl := List (Option W)

def M.get (m : M) (n : Ad) : Option O := m.tr.get n
def M.put (m : M) (n : Ad) (o : O) : M := M.casesOn m fun x t => ⟨x, t.set n o⟩
def M.new (m : M) (o : O) : M := M.casesOn m fun x t => ⟨Ad.inc x, t.set x o⟩

/-- an exception: its class, its fields -/
structure Xc where
  cls : Nat
  args : List W
  deriving Inhabited

inductive RE (α : Type) where
  | ok (v : α) (m : M) | exc (x : Xc) (m : M) | er (e : Er)
  /-- a draw of one of n numbers -/
  | draw (n : Nat) (k : W → RE α)
inductive RS where
  | nx (σ : Sl) (m : M) | bk (σ : Sl) (m : M) | ct (σ : Sl) (m : M) | rt (w : W) (m : M) | exc (x : Xc) (σ : Sl) (m : M) | er (e : Er)
  | draw (n : Nat) (k : W → RS)

/-- binary operators -/
inductive Bo where
  | add | sub | mul | fdiv | mod | band | shl | pow
  deriving DecidableEq, Inhabited, Repr
inductive Co where
  | eq | ne | lt | le | gt | ge | isin | notin
  deriving DecidableEq, Inhabited, Repr
/-- built-ins of one argument -/
inductive B1 where
  | len | all | any | sum | sorted | tuple | list | int | abs | min | max
  | isInt | isBool | isTuple | isStr | isList | isTL
  | lenSet | sortedSet
  | pop | values | str | sortItems | sumVals | dcopy | revL | sortedSetT
  deriving DecidableEq, Inhabited, Repr
inductive B2 where
  | min | max | append | extend | index | count | remove | popAt | get
  deriving DecidableEq, Inhabited, Repr
inductive B3 where
  | get | setdef
  deriving DecidableEq, Inhabited, Repr

mutual
inductive Ex where
  | vr (i : Nat) | cw (w : W) | gl (j : Nat)
  | bin (o : Bo) (a b : Ex) | neg (a : Ex)
  | cmp (o : Co) (a b : Ex) | ch2 (o p : Co) (a b c : Ex) | ch3 (o p q : Co) (a b c d : Ex)
  | isN (a : Ex) | notN (a : Ex) | isB (b : Bool) (a : Ex) | notB (b : Bool) (a : Ex)
  | no (a : Ex) | an (l : List Ex) | orr (l : List Ex) | ite (c a b : Ex)
  | tup (l : List Ex) | lst (l : List Ex)
  | ix (a b : Ex) | sl (a : Ex) (lo hi : Option Ex)
  | call (f : Nat) (l : List Ex)
  | b1 (o : B1) (a : Ex) | b2 (o : B2) (a b : Ex) | b3 (o : B3) (a b c : Ex)
  | tupRng (a b : Ex) | lstRng (a b : Ex)
  | comp (e : Ex) (tg : Tg) (it : It) (ifs : List Ex) (own : List Nat)
  | comp2 (e : Ex) (tg : Tg) (it : It) (ifs : List Ex) (tg1 : Tg) (it1 : It) (ifs1 : List Ex) (own own1 : List Nat)
  | dnew (t : Bool) | dsp (l : List (Ex × Ex))
  | lstS (l : List (Bool × Ex)) | tupS (l : List (Bool × Ex))
  | minK (a : Ex) (p : Nat) (b : Ex) | sortK (a : Ex) (p : Nat) (b : Ex) | sortKR (lo hi : Ex) (p : Nat) (b : Ex)
  | fld (a : Ex) (f : Nat) | meth (a : Ex) (m : Nat) (l : List Ex) | mkI (c : Nat) (l : List Ex)
  | gf (j : Nat) | callV (i : Nat) (l : List Ex) | word (own : List Nat) (e : Ex) | bad
inductive Tg where
  | nm (i : Nat) | tp (l : List Tg) | ix (a b : Ex) | fld (a : Ex) (f : Nat)
inductive It where
  | seq (e : Ex) | rng (a b : Ex) | enum (e : Ex) | items (e : Ex) | vals (e : Ex) | zip (a b : Ex)
end

inductive Sx where
  | asg (t : Tg) (e : Ex) | par (is : List Nat) (es : List Ex) | augv (i : Nat) (o : Bo) (e : Ex) | augx (a i : Ex) (o : Bo) (e : Ex) | augf (a : Ex) (f : Nat) (o : Bo) (e : Ex)
  | ex (e : Ex) | iff (c : Ex) (a b : List Sx) | whl (c : Ex) (b : List Sx) | fr (t : Tg) (i : It) (b : List Sx)
  | ret (e : Ex) | pas | brk | cnt | rse (c : Nat) (l : List Ex) | bad
  deriving Inhabited

/-- a def: its slots, its body -/
structure Fn where
  n : Nat
  b : List Sx
  deriving Inhabited
/-- the program's table -/
inductive Df where
  | fn (f : Fn) | draw | word
  deriving Inhabited
structure Pg where
  df : List Df
  /-- classes: the methods (number, def, parameters); 0: __init__ -/
  cl : List (List (Nat × Nat × Nat))
  gv : List W
  /-- the letter: from lo to hi, the first draw, of many, of a row with this seed -/
  lo : Int
  hi : Int
  many : Nat
  seed : Int
  /-- the exceptions' words: the word, is there a field -/
  wd : List (PySem.Str × Bool) := []
  /-- how many parameters the defs have -/
  ar : List Nat := []
  deriving Inhabited

/-! ### numbers -/
def ieq (x y : Int) : Bool := Int.casesOn x (fun a => Int.casesOn y (fun b => Nat.beq a b) fun _ => false) (fun a => Int.casesOn y (fun _ => false) fun b => Nat.beq a b)
def ilt (x y : Int) : Bool := Int.casesOn x (fun a => Int.casesOn y (fun b => Nat.blt a b) fun _ => false) (fun a => Int.casesOn y (fun _ => true) fun b => Nat.blt b a)
def mk (c k : Int) : W := Bool.rec (.aff c k) (.int c) (ieq k 0)
/-- the sign of a number: -1, 0, 1 as 0, 1, 2 -/
def sgn (c : Int) : Nat := Int.casesOn c (fun n => Nat.casesOn n 1 fun _ => 2) fun _ => 0
/-- the sign of c + k x for all x from lo to hi -/
def signOf (lo hi c k : Int) : Except Er Nat :=
  Bool.rec
    (Bool.rec
      (Bool.rec (.error (.split (Bool.rec (Bool.rec (hi - 1) (Int.fdiv (-c) k) (ilt (Int.fdiv (-c) k) hi)) lo (ilt (Int.fdiv (-c) k) lo))))
        (.ok (sgn (c + k * lo)))
        (and (Nat.beq (sgn (c + k * lo)) (sgn (c + k * hi))) (not (Nat.beq (sgn (c + k * lo)) 1))))
      (.ok (sgn (c + k * lo))) (ieq lo hi))
    (.ok (sgn c)) (ieq k 0)
def sEq (x : Except Er Nat) : EB := Except.rec (fun e => .error e) (fun n => .ok (Nat.beq n 1)) x
def sLt (x : Except Er Nat) : EB := Except.rec (fun e => .error e) (fun n => .ok (Nat.beq n 0)) x
def exNot (x : EB) : EB := Except.rec (fun e => .error e) (fun b => .ok (not b)) x
def exIf {α : Type} (x : EB) (a b : Except Er α) : Except Er α := Except.rec (fun e => .error e) (fun c => Bool.rec b a c) x
def exB {α β : Type} (x : Except Er α) (f : α → Except Er β) : Except Er β := Except.rec (fun e => .error e) (fun a => f a) x

/-! ### equality, order -/
section
variable (eq lt : W → W → EB)
def allEq (xs ys : List W) : EB := List.rec (motive := fun _ => List W → EB) (fun ys => List.casesOn ys (.ok true) fun _ _ => .ok false)
  (fun x _ ih ys => List.casesOn ys (.ok false) fun y ys => exIf (eq x y) (ih ys) (.ok false)) xs ys
def lexLt (xs ys : List W) : EB := List.rec (motive := fun _ => List W → EB) (fun ys => List.casesOn ys (.ok false) fun _ _ => .ok true)
  (fun x _ ih ys => List.casesOn ys (.ok false) fun y ys => exIf (eq x y) (ih ys) (lt x y)) xs ys
end
def er1 : EB := .error (.stuck 1)
/-- is an object a list -/
def isLs (o : Option O) : Bool := match o with
  | some (.lst _) => true
  | _ => false
def noLs (o : Option O) : EB := Bool.rec er1 (.ok false) (isLs o)
abbrev EqT := Int → Int → M → (W → W → EB) → W → EB
def eNon : EqT := fun _ _ m _ b => match b with
  | .non => .ok true
  | .ref n => noLs (m.get n)
  | .glo _ => er1
  | _ => .ok false
def eBl (x : Bool) : EqT := fun _ _ m _ b => match b with
  | .bl y => .ok (x == y)
  | .int _ | .aff _ _ | .glo _ => er1
  | .ref n => noLs (m.get n)
  | _ => .ok false
def eInt (x : Int) : EqT := fun lo hi m _ b => match b with
  | .int y => .ok (ieq x y)
  | .aff c k => sEq (signOf lo hi (x - c) (0 - k))
  | .bl _ | .glo _ => er1
  | .ref n => noLs (m.get n)
  | _ => .ok false
def eAff (c k : Int) : EqT := fun lo hi m _ b => match b with
  | .int y => sEq (signOf lo hi (c - y) k)
  | .aff c' k' => sEq (signOf lo hi (c - c') (k - k'))
  | .bl _ | .glo _ => er1
  | .ref n => noLs (m.get n)
  | _ => .ok false
def eStr (x : Str) : EqT := fun _ _ m _ b => match b with
  | .str y => .ok (decide (x = y))
  | .glo _ => er1
  | .ref n => noLs (m.get n)
  | _ => .ok false
def eTup (xs : List W) : EqT := fun _ _ m eq b => match b with
  | .tup ys => allEq eq xs ys
  | .glo _ => er1
  | .ref n => noLs (m.get n)
  | _ => .ok false
def eLs (xs : List W) (m : M) (eq : W → W → EB) : EB → Option O → EB := fun e o => match o with
  | some (.lst ys) => allEq eq xs ys
  | _ => e
def eRef (n : Ad) : EqT := fun _ _ m eq b => match m.get n with
  | some (.lst xs) => (match b with
    | .ref n' => eLs xs m eq er1 (m.get n')
    | .glo _ => er1
    | _ => .ok false)
  | _ => er1
def eGlo (_ : Nat) : EqT := fun _ _ _ _ _ => er1
def dispEq : W → EqT := @W.rec (fun _ => EqT) (fun _ => Unit) eNon eBl eInt eAff eStr (fun xs _ => eTup xs) eRef eGlo () (fun _ _ _ _ => ())
def eqS (lo hi : Int) (m : M) (eq : W → W → EB) (a b : W) : EB :=
  dispEq a lo hi m eq b
/-- == of two values; f: nesting -/
def eqN (lo hi : Int) (m : M) (f : Nat) : W → W → EB := Nat.rec (fun _ _ => .error .fuel) (fun _ ih => eqS lo hi m ih) f
def allL {α : Type} (f : α → Bool) (l : List α) : Bool := List.rec true (fun x _ r => Bool.rec false r (f x)) l
/-- data: numbers, truth values, None, texts, tuples and lists of these, nested less than f deep -/
abbrev DtT := M → (W → Bool) → Bool
def dY : DtT := fun _ _ => true
def dTup (xs : List W) : DtT := fun _ r => allL r xs
def dLs (o : Option O) (r : W → Bool) : Bool := match o with
  | some (.lst xs) => allL r xs
  | _ => false
def dRef (n : Ad) : DtT := fun m r => dLs (m.get n) r
def dGlo (_ : Nat) : DtT := fun _ _ => false
def dispDt : W → DtT := @W.rec (fun _ => DtT) (fun _ => Unit) dY (fun _ => dY) (fun _ => dY) (fun _ _ => dY) (fun _ => dY) (fun xs _ => dTup xs) dRef dGlo () (fun _ _ _ _ => ())
def dtS (m : M) (r : W → Bool) (a : W) : Bool := dispDt a m r
def dtN (m : M) (f : Nat) : W → Bool := Nat.rec (fun _ => false) (fun _ ih => dtS m ih) f
def eqW (lo hi : Int) (m : M) (a b : W) : EB := Bool.rec er1 (eqN lo hi m 12 a b) (dtN m 12 a && dtN m 12 b)

def er2 : EB := .error (.stuck 2)
abbrev LtT := Int → Int → M → (W → W → EB) → W → EB
def lInt (x : Int) : LtT := fun lo hi _ _ b => match b with
  | .int y => .ok (ilt x y)
  | .aff c k => sLt (signOf lo hi (x - c) (0 - k))
  | _ => er2
def lAff (c k : Int) : LtT := fun lo hi _ _ b => match b with
  | .int y => sLt (signOf lo hi (c - y) k)
  | .aff c' k' => sLt (signOf lo hi (c - c') (k - k'))
  | _ => er2
def lTup (xs : List W) : LtT := fun lo hi m lt b => match b with
  | .tup ys => lexLt (eqN lo hi m 12) lt xs ys
  | _ => er2
def lLs (xs : List W) (lo hi : Int) (m : M) (lt : W → W → EB) : Option O → EB := fun o => match o with
  | some (.lst ys) => lexLt (eqN lo hi m 12) lt xs ys
  | _ => er2
def lRef (n : Ad) : LtT := fun lo hi m lt b => match b with
  | .ref n' => (match m.get n with
    | some (.lst xs) => lLs xs lo hi m lt (m.get n')
    | _ => er2)
  | _ => er2
def lNo : LtT := fun _ _ _ _ _ => er2
def dispLt : W → LtT := @W.rec (fun _ => LtT) (fun _ => Unit) lNo (fun _ => lNo) lInt lAff (fun _ => lNo) (fun xs _ => lTup xs) lRef (fun _ => lNo) () (fun _ _ _ _ => ())
def ltS (lo hi : Int) (m : M) (lt : W → W → EB) (a b : W) : EB :=
  dispLt a lo hi m lt b
def ltN (lo hi : Int) (m : M) (f : Nat) : W → W → EB := Nat.rec (fun _ _ => .error .fuel) (fun _ ih => ltS lo hi m ih) f
/-- the kind of a datum: 0 None, 1 a truth value, 2 a number, 3 a text, 4 a tuple, 5 a list -/
def kdO (o : Option O) : Nat := match o with
  | some (.lst _) => 5
  | _ => 6
def kd (m : M) (a : W) : Nat := match a with
  | .non => 0 | .bl _ => 1 | .int _ => 2 | .aff _ _ => 2 | .str _ => 3 | .tup _ => 4
  | .ref n => kdO (m.get n)
  | .glo _ => 6
def itO (o : Option O) : List W := match o with
  | some (.lst xs) => xs
  | _ => []
def its (m : M) (a : W) : List W := match a with
  | .tup xs => xs
  | .ref n => itO (m.get n)
  | _ => []
def heads : List (List W) → List W
  | [] => []
  | l :: r => List.casesOn l (heads r) fun x _ => x :: heads r
def tails : List (List W) → List (List W)
  | [] => []
  | l :: r => List.casesOn l (tails r) fun _ xs => xs :: tails r
/-- place by place of one kind: k: how long the rows are at most -/
def colOk (ok : List W → Bool) (k : Nat) : List (List W) → Bool := Nat.rec (fun ls => (heads ls).isEmpty) (fun _ r ls => List.casesOn (heads ls) true fun _ _ => ok (heads ls) && r (tails ls)) k
/-- all of one kind, place by place -/
def alkS (m : M) (ok : List W → Bool) (l : List W) : Bool := List.casesOn l true fun x r =>
  allL (fun y => Nat.beq (kd m y) (kd m x)) r && Bool.rec true (colOk ok 64 (l.map (its m))) (Nat.ble 4 (kd m x))
def alkN (m : M) (f : Nat) : List W → Bool := Nat.rec (fun _ => false) (fun _ ih => alkS m ih) f
/-- data that < compares -/
def cmpOk (m : M) (l : List W) : Bool := allL (dtN m 12) l && (alkN m 12 l && allL (fun x => Nat.blt 0 (kd m x)) l)
def ltW (lo hi : Int) (m : M) (a b : W) : EB := Bool.rec er2 (ltN lo hi m 12 a b) (cmpOk m [a, b])

/-! ### sorting, least and greatest -/
section
variable (lo hi : Int) (m : M)
/-- x put behind all that are not greater (stable) -/
def insW (x : W) : List W → Except Er (List W)
  | [] => .ok [x]
  | y :: ys => exIf (ltN lo hi m 12 x y) (.ok (x :: y :: ys)) (exB (insW x ys) fun zs => .ok (y :: zs))
def sortI (acc : List W) : List W → Except Er (List W)
  | [] => .ok acc
  | x :: xs => exB (insW lo hi m x acc) fun a => sortI a xs
/-- all tuples with an item, or no tuple -/
def srtOk (m : M) (l : List W) : Bool := List.casesOn l true fun x _ => Bool.rec (allL (fun y => !(Nat.beq (kd m y) 4)) l) (allL (fun y => Nat.beq (kd m y) 4 && !(its m y).isEmpty) l) (Nat.beq (kd m x) 4)
def sortW (l : List W) : Except Er (List W) := Bool.rec (.error (.stuck 2)) (sortI lo hi m [] l) (cmpOk m l && srtOk m l)
def memI (x : W) : List W → EB
  | [] => .ok false
  | y :: ys => exIf (eqN lo hi m 12 y x) (.ok true) (memI x ys)
def memW (x : W) (l : List W) : EB := Bool.rec er1 (memI lo hi m x l) (dtN m 12 x && allL (dtN m 12) l)
/-- without doubles, the first ones kept -/
def dedW (acc : List W) : List W → Except Er (List W)
  | [] => .ok acc.reverse
  | x :: xs => exIf (memI lo hi m x acc) (dedW acc xs) (dedW (x :: acc) xs)
def minW (a : W) : List W → Except Er W
  | [] => .ok a
  | y :: ys => exIf (ltN lo hi m 12 y a) (minW y ys) (minW a ys)
def maxW (a : W) : List W → Except Er W
  | [] => .ok a
  | y :: ys => exIf (ltN lo hi m 12 a y) (maxW y ys) (maxW a ys)
def idxW (x : W) (i : Nat) : List W → Except Er Nat
  | [] => .error (.stuck 3)
  | y :: ys => exIf (eqN lo hi m 12 y x) (.ok i) (idxW x (i + 1) ys)
def cntW (x : W) (i : Nat) : List W → Except Er Nat
  | [] => .ok i
  | y :: ys => exIf (eqN lo hi m 12 y x) (cntW x (i + 1) ys) (cntW x i ys)
end

/-! ### keys of dicts: t: tuples of ints and texts; else ints and texts -/
def keq0 (lo hi : Int) (a b : W) : EB := match a with
  | .int i => (match b with
    | .int j => .ok (ieq i j)
    | .aff c k => sEq (signOf lo hi (i - c) (0 - k))
    | _ => .ok false)
  | .aff c k => (match b with
    | .int j => sEq (signOf lo hi (c - j) k)
    | .aff c' k' => sEq (signOf lo hi (c - c') (k - k'))
    | _ => .ok false)
  | .str x => (match b with
    | .str y => .ok (decide (x = y))
    | _ => .ok false)
  | _ => .ok false
def keqL (lo hi : Int) (xs : List W) : List W → EB := List.rec (motive := fun _ => List W → EB) (fun ys => List.casesOn ys (.ok true) fun _ _ => .ok false)
  (fun x _ ih ys => List.casesOn ys (.ok false) fun y ys => exIf (keq0 lo hi x y) (ih ys) (.ok false)) xs
def keq (lo hi : Int) (a b : W) : EB := match a with
  | .tup xs => (match b with
    | .tup ys => keqL lo hi xs ys
    | _ => .ok false)
  | a => keq0 lo hi a b
def keyOk0 (a : W) : Bool := match a with
  | .int _ => true
  | .aff _ _ => true
  | .str _ => true
  | _ => false
def keyOkT (a : W) : Bool := match a with
  | .tup xs => allL keyOk0 xs
  | _ => false
def keyOk (t : Bool) (a : W) : Bool := Bool.rec (keyOk0 a) (keyOkT a) t
/-- a number of a key: 0: with the letter -/
def hI (i : Int) : Nat := Int.casesOn i (fun n => Nat.succ (Nat.succ (Nat.add n n))) (fun n => Nat.succ (Nat.succ (Nat.succ (Nat.add n n))))
def hk0 : W → Nat := @W.rec (fun _ => Nat) (fun _ => Unit) 0 (fun _ => 0) (fun i => hI i) (fun _ _ => 0) (fun _ => 1) (fun _ _ => 0) (fun _ => 0) (fun _ => 0) () (fun _ _ _ _ => ())
def hkL (l : List W) : Nat := List.rec 1 (fun a _ r => Bool.rec (Bool.rec (Nat.add (Nat.mul 1000003 r) (hk0 a)) 0 (Nat.beq (hk0 a) 0)) 0 (Nat.beq r 0)) l
def hkey : W → Nat := @W.rec (fun _ => Nat) (fun _ => Unit) 0 (fun _ => 0) (fun i => hI i) (fun _ _ => 0) (fun _ => 1) (fun xs _ => hkL xs) (fun _ => 0) (fun _ => 0) () (fun _ _ _ _ => ())
def mayE (a b : Nat) : Bool := Bool.rec (Bool.rec (Nat.beq b 0) true (Nat.beq a 0)) true (Nat.beq a b)
def findH (lo hi : Int) (h : Nat) (k : W) (l : List (W × W)) : Except Er (Option W) := List.rec (.ok none) (fun p _ r => Bool.rec r (exIf (keq lo hi p.1 k) (.ok (some p.2)) r) (mayE (hkey p.1) h)) l
def findW (lo hi : Int) (k : W) (l : List (W × W)) : Except Er (Option W) := findH lo hi (hkey k) k l
def replH (lo hi : Int) (h : Nat) (k v : W) (l : List (W × W)) : Except Er (List (W × W)) := List.rec (.ok []) (fun p _ r => Bool.rec (exB r fun q => .ok (p :: q)) (exIf (keq lo hi p.1 k) (exB r fun q => .ok ((p.1, v) :: q)) (exB r fun q => .ok (p :: q))) (mayE (hkey p.1) h)) l
def replW (lo hi : Int) (k v : W) (l : List (W × W)) : Except Er (List (W × W)) := replH lo hi (hkey k) k v l
def putW (lo hi : Int) (k v : W) (l : List (W × W)) : Except Er (List (W × W)) := exB (findW lo hi k l) fun o => Option.rec (.ok (l ++ [(k, v)])) (fun _ => replW lo hi k v l) o

/-! ### arithmetic -/
def addN (a b : W) : Except Er W := match a with
  | .int x => (match b with
    | .int y => .ok (.int (x + y))
    | .aff c k => .ok (mk (x + c) k)
    | _ => .error (.stuck 4))
  | .aff c k => (match b with
    | .int y => .ok (mk (c + y) k)
    | .aff c' k' => .ok (mk (c + c') (k + k'))
    | _ => .error (.stuck 4))
  | _ => .error (.stuck 4)
def subN (a b : W) : Except Er W := match a with
  | .int x => (match b with
    | .int y => .ok (.int (x - y))
    | .aff c k => .ok (mk (x - c) (0 - k))
    | _ => .error (.stuck 8))
  | .aff c k => (match b with
    | .int y => .ok (mk (c - y) k)
    | .aff c' k' => .ok (mk (c - c') (k - k'))
    | _ => .error (.stuck 8))
  | _ => .error (.stuck 8)
def sumW (acc : W) : List W → Except Er W
  | [] => .ok acc
  | x :: xs => exB (addN acc x) fun a => sumW a xs
def allB : List W → EB
  | [] => .ok true
  | x :: xs => (match x with
    | .bl b => exB (allB xs) fun c => .ok (b && c)
    | _ => .error (.stuck 5))
def anyB : List W → EB
  | [] => .ok false
  | x :: xs => (match x with
    | .bl b => exB (anyB xs) fun c => .ok (b || c)
    | _ => .error (.stuck 5))
/-- a place from the left, or from the right if below 0 -/
def place (n : Nat) (i : Int) : Option Nat := match i with
  | .ofNat j => Bool.rec none (some j) (Nat.blt j n)
  | .negSucc j => Bool.rec none (some (n - 1 - j)) (Nat.blt j n)
def sIx (n : Nat) (i : Int) : Nat := match i with
  | .ofNat j => Bool.rec n j (Nat.ble j n)
  | .negSucc j => n - 1 - j
def nth {α : Type} (xs : List α) (n : Nat) : Option α := List.rec (motive := fun _ => Nat → Option α) (fun _ => none) (fun x _ ih n => Nat.casesOn n (some x) (fun k => ih k)) xs n
def rngL (a : Int) : Nat → List W
  | 0 => []
  | n + 1 => .int a :: rngL (a + 1) n

def lift {α β : Type} (x : Except Er α) (f : α → RE β) : RE β := Except.rec (fun e => .er e) (fun a => f a) x
def liftO {α β : Type} (c : Nat) (x : Option α) (f : α → RE β) : RE β := Option.rec (.er (.stuck c)) (fun a => f a) x
def REbind {α β : Type} (x : RE α) (f : α → M → RE β) : RE β := RE.rec (fun a m => f a m) (fun x m => .exc x m) (fun e => .er e) (fun n _ r => .draw n r) x
def ifB {α : Type} (b : Bool) (x y : α) : α := Bool.rec y x b
def okB (x : EB) (m : M) : RE W := lift x fun b => .ok (.bl b) m

def exO (o : Option O) (l : List W → Except Er (List W)) (d : List (W × W) → Except Er (List W)) : Except Er (List W) := match o with
  | some (.lst xs) => l xs
  | some (.dict _ kvs) => d kvs
  | _ => .error (.stuck 6)
/-- the items of a list or tuple, the keys of a dict -/
def items (m : M) (a : W) : Except Er (List W) := match a with
  | .tup xs => .ok xs
  | .ref n => exO (m.get n) (fun xs => .ok xs) (fun kvs => .ok (kvs.map (·.1)))
  | _ => .error (.stuck 6)
def seqI (m : M) (a : W) : Except Er (List W) := match a with
  | .tup xs => .ok xs
  | .ref n => exO (m.get n) (fun xs => .ok xs) (fun _ => .error (.stuck 6))
  | _ => .error (.stuck 6)
/-- lists and tuples stay short -/
def okL {α β : Type} (xs : List α) (r : RE β) : RE β := ifB (Nat.ble xs.length 100000) r (.er (.stuck 50))
def newL (xs : List W) (m : M) : RE W := okL xs (.ok (.ref m.next) (m.new (.lst xs)))
def newT (xs : List W) (m : M) : RE W := okL xs (.ok (.tup xs) m)
def small (i : Int) : Bool := Nat.blt i.natAbs 1000000000
def getL (m : M) (a : W) (f : Ad → List W → RE W) : RE W := match a with
  | .ref n => (match m.get n with
    | some (.lst xs) => f n xs
    | _ => .er (.stuck 22))
  | _ => .er (.stuck 22)
def getD (m : M) (a : W) (f : Ad → Bool → List (W × W) → RE W) : RE W := match a with
  | .ref n => (match m.get n with
    | some (.dict t kvs) => f n t kvs
    | _ => .er (.stuck 24))
  | _ => .er (.stuck 24)

abbrev BoT := Pg → W → W → M → RE W
def liftW (x : Except Er W) (m : M) : RE W := lift x fun w => .ok w m
def splitMid {α : Type} (Γ : Pg) : RE α := ifB (ieq Γ.lo Γ.hi) (.er (.stuck 10)) (.er (.split (Int.fdiv (Γ.lo + Γ.hi) 2)))
def oAdd : BoT := fun _ a b m => match a with
  | .tup xs => (match b with
    | .tup ys => newT (xs ++ ys) m
    | _ => .er (.stuck 7))
  | .ref _ => getL m a fun _ xs => getL m b fun _ ys => newL (xs ++ ys) m
  | a => liftW (addN a b) m
def oSub : BoT := fun _ a b m => liftW (subN a b) m
def oMul : BoT := fun _ a b m => match b with
  | .int y => ifB (small y) (match a with
    | .int x => .ok (.int (x * y)) m
    | .aff c k => .ok (mk (c * y) (k * y)) m
    | .ref _ => getL m a fun _ xs => newL ((List.replicate y.toNat xs).flatten) m
    | .tup xs => ifB (Nat.ble 2 y.toNat && (Nat.ble y.toNat 1000 && (Nat.ble 1 xs.length && Nat.ble xs.length 1000))) (newT ((List.replicate y.toNat xs).flatten) m) (.er (.stuck 9))
    | _ => .er (.stuck 9)) (.er (.stuck 9))
  | .aff c k => (match a with
    | .int x => ifB (small x) (.ok (mk (x * c) (x * k)) m) (.er (.stuck 9))
    | _ => .er (.stuck 9))
  | _ => .er (.stuck 9)
def oDiv : BoT := fun Γ a b m => match b with
  | .int y => (match a with
    | .int x => ifB (not (ieq y 0) && small y) (.ok (.int (Int.fdiv x y)) m) (.er (.stuck 10))
    | .aff c k => ifB (ilt 0 y && (small y && (ieq (Int.fmod c y) 0 && ieq (Int.fmod k y) 0))) (.ok (mk (Int.fdiv c y) (Int.fdiv k y)) m) (splitMid Γ)
    | _ => .er (.stuck 10))
  | _ => .er (.stuck 10)
def oMod : BoT := fun Γ a b m => match b with
  | .int y => (match a with
    | .int x => ifB (ieq y 0) (.er (.stuck 10)) (.ok (.int (Int.fmod x y)) m)
    | .aff c k => ifB (ilt 0 y && ieq (Int.fmod k y) 0) (.ok (.int (Int.fmod c y)) m) (splitMid Γ)
    | _ => .er (.stuck 10))
  | _ => .er (.stuck 10)
def oAnd : BoT := fun _ a b m => match a with
  | .int (.ofNat x) => (match b with
    | .int (.ofNat y) => .ok (.int (Int.ofNat (x &&& y))) m
    | _ => .er (.stuck 11))
  | _ => .er (.stuck 11)
def oShl : BoT := fun _ a b m => match a with
  | .int x => (match b with
    | .int (.ofNat y) => ifB (Nat.ble y 60 && small x) (.ok (.int (x * 2 ^ y)) m) (.er (.stuck 11))
    | _ => .er (.stuck 11))
  | _ => .er (.stuck 11)
def oPow : BoT := fun _ a b m => match a with
  | .int x => (match b with
    | .int (.ofNat y) => ifB (Nat.ble y 60 && small x) (.ok (.int (x ^ y)) m) (.er (.stuck 11))
    | _ => .er (.stuck 11))
  | _ => .er (.stuck 11)
def dispBo : Bo → BoT := @Bo.rec (fun _ => BoT) oAdd oSub oMul oDiv oMod oAnd oShl oPow
def binW (Γ : Pg) (o : Bo) (a b : W) (m : M) : RE W := dispBo o Γ a b m

/-- op= of numbers -/
def numB : W → Bool := @W.rec (fun _ => Bool) (fun _ => Unit) false (fun _ => false) (fun _ => true) (fun _ _ => true) (fun _ => false) (fun _ _ => false) (fun _ => false) (fun _ => false) () (fun _ _ _ _ => ())
def augN (Γ : Pg) (o : Bo) (a b : W) (m : M) : RE W := ifB (numB a && numB b) (@Bo.casesOn (fun _ => RE W) o (liftW (addN a b) m) (liftW (subN a b) m) (.er (.stuck 9)) (.er (.stuck 9)) (.er (.stuck 9)) (.er (.stuck 9)) (.er (.stuck 9)) (.er (.stuck 9))) (.er (.stuck 9))
abbrev CoT := Pg → W → W → M → EB
def cEq : CoT := fun Γ a b m => eqW Γ.lo Γ.hi m a b
def cNe : CoT := fun Γ a b m => exNot (eqW Γ.lo Γ.hi m a b)
def cLt : CoT := fun Γ a b m => ltW Γ.lo Γ.hi m a b
def cGt : CoT := fun Γ a b m => ltW Γ.lo Γ.hi m b a
def cLe : CoT := fun Γ a b m => exNot (ltW Γ.lo Γ.hi m b a)
def cGe : CoT := fun Γ a b m => exNot (ltW Γ.lo Γ.hi m a b)
def inO (lo hi : Int) (m : M) (a : W) (o : Option O) : EB := match o with
  | some (.lst xs) => memW lo hi m a xs
  | some (.dict t kvs) => Bool.rec er1 (exB (findW lo hi a kvs) fun o => .ok o.isSome) (keyOk t a)
  | some (.frd t kvs) => Bool.rec er1 (exB (findW lo hi a kvs) fun o => .ok o.isSome) (keyOk t a)
  | _ => er1
def inW (lo hi : Int) (m : M) (a b : W) : EB := match b with
  | .tup xs => memW lo hi m a xs
  | .ref n => inO lo hi m a (m.get n)
  | _ => er1
def cIn : CoT := fun Γ a b m => inW Γ.lo Γ.hi m a b
def cNi : CoT := fun Γ a b m => exNot (inW Γ.lo Γ.hi m a b)
def dispCo : Co → CoT := @Co.rec (fun _ => CoT) cEq cNe cLt cLe cGt cGe cIn cNi
def cmpW (Γ : Pg) (o : Co) (a b : W) (m : M) : EB := dispCo o Γ a b m

def ixL (xs : List W) (b : W) (m : M) : RE W := match b with
  | .int i => liftO 12 (place xs.length i) fun j => liftO 12 (nth xs j) fun w => .ok w m
  | _ => .er (.stuck 12)
def ixW (Γ : Pg) (a b : W) (m : M) : RE W := match a with
  | .tup xs => ixL xs b m
  | .ref n => (match m.get n with
    | some (.lst xs) => ixL xs b m
    | some (.dict t kvs) => ifB (keyOk t b) (lift (findW Γ.lo Γ.hi b kvs) fun o => liftO 13 o fun w => .ok w m) (.er (.stuck 51))
    | some (.frd t kvs) => ifB (keyOk t b) (lift (findW Γ.lo Γ.hi b kvs) fun o => liftO 13 o fun w => .ok w m) (.er (.stuck 51))
    | _ => .er (.stuck 12))
  | _ => .er (.stuck 12)
def bnd (n dflt : Nat) (b : Option Int) : Nat := Option.rec dflt (fun i => sIx n i) b
def cut (xs : List W) (a b : Nat) : List W := (xs.drop a).take (b - a)
def slW (a : W) (lo hi : Option Int) (m : M) : RE W := match a with
  | .tup xs => newT (cut xs (bnd xs.length 0 lo) (bnd xs.length xs.length hi)) m
  | .ref n => getL m (.ref n) fun _ xs => newL (cut xs (bnd xs.length 0 lo) (bnd xs.length xs.length hi)) m
  | _ => .er (.stuck 14)
/-- what a value is: 0 None, 1 a truth value, 2 a number, 3 a text, 4 a tuple, 5 a list, 6 a dict -/
def tyO (o : Option O) : Option Nat := match o with
  | some (.lst _) => some 5
  | some (.dict _ _) => some 6
  | _ => none
def tyW (m : M) (a : W) : Option Nat := match a with
  | .non => some 0 | .bl _ => some 1 | .int _ => some 2 | .aff _ _ => some 2 | .str _ => some 3 | .tup _ => some 4
  | .ref n => tyO (m.get n)
  | .glo _ => none
def isW (f : Nat → Bool) : W → M → RE W := fun a m => liftO 16 (tyW m a) fun k => .ok (.bl (f k)) m
def isLst (m : M) (a : W) : Bool := Option.rec false (fun k => Nat.beq k 5) (tyW m a)
def isDic (m : M) (a : W) : Bool := Option.rec false (fun k => Nat.beq k 6) (tyW m a)

def isNum : W → Bool := @W.rec (fun _ => Bool) (fun _ => Unit) false (fun _ => false) (fun _ => true) (fun _ _ => true) (fun _ => false) (fun _ _ => false) (fun _ => false) (fun _ => false) () (fun _ _ _ _ => ())
def isIntW (w : W) : Bool := match w with
  | .int _ => true
  | _ => false
abbrev B1T := Pg → W → M → RE W
def qLen : B1T := fun _ a m => match a with
  | .tup xs => .ok (.int (Int.ofNat xs.length)) m
  | .str x => okL x.cps.toList (.ok (.int (Int.ofNat x.length)) m)
  | .ref n => (match m.get n with
    | some (.lst xs) => .ok (.int (Int.ofNat xs.length)) m
    | some (.dict _ kvs) => .ok (.int (Int.ofNat kvs.length)) m
    | _ => .er (.stuck 15))
  | _ => .er (.stuck 15)
def qAll : B1T := fun _ a m => lift (seqI m a) fun xs => okB (allB xs) m
def qAny : B1T := fun _ a m => lift (seqI m a) fun xs => okB (anyB xs) m
def qSum : B1T := fun _ a m => lift (seqI m a) fun xs => liftW (sumW (.int 0) xs) m
/-- what is sorted: a list's items, the keys of a dict (whole numbers alone) -/
def sortOf (m : M) (a : W) : Except Er (List W) := match a with
  | .tup xs => .ok xs
  | .ref n => (match m.get n with
    | some (.lst xs) => .ok xs
    | some (.dict false kvs) => Bool.rec (.error (.stuck 54)) (.ok (kvs.map (·.1))) (allL (fun p => isIntW p.1) kvs && Nat.ble kvs.length 63)
    | _ => .error (.stuck 22))
  | _ => .error (.stuck 22)
def qSorted : B1T := fun Γ a m => lift (sortOf m a) fun xs => lift (sortW Γ.lo Γ.hi m xs) fun ys => newL ys m
def qTuple : B1T := fun _ a m => lift (seqI m a) fun xs => newT xs m
def qList : B1T := fun _ a m => lift (seqI m a) fun xs => newL xs m
def qInt : B1T := fun _ a m => match a with
  | .int i => .ok (.int i) m
  | .bl b => .ok (.int (Bool.rec 0 1 b)) m
  | .aff c k => .ok (.aff c k) m
  | _ => .er (.stuck 17)
def qAbs : B1T := fun Γ a m => match a with
  | .int i => .ok (.int (ifB (ilt i 0) (-i) i)) m
  | .aff c k => lift (signOf Γ.lo Γ.hi c k) fun s => ifB (Nat.beq s 0) (.ok (mk (-c) (-k)) m) (.ok a m)
  | _ => .er (.stuck 17)
/-- no list within -/
def pureN (f : Nat) : W → Bool := Nat.rec (fun _ => false) (fun _ ih a => match a with
  | .tup xs => allL ih xs
  | .ref _ => false
  | .glo _ => false
  | _ => true) f
def bestW (h : List W → Except Er W) (xs : List W) (m : M) : RE W := ifB (cmpOk m xs && allL (pureN 12) xs) (liftW (h xs) m) (.er (.stuck 2))
def qMin : B1T := fun Γ a m => getL m a fun _ xs => List.casesOn xs (.er (.stuck 18)) fun x r => bestW (fun _ => minW Γ.lo Γ.hi m x r) xs m
def qMax : B1T := fun Γ a m => getL m a fun _ xs => List.casesOn xs (.er (.stuck 18)) fun x r => bestW (fun _ => maxW Γ.lo Γ.hi m x r) xs m
def tInt (k : Nat) : Bool := Nat.beq k 1 || Nat.beq k 2
def tTL (k : Nat) : Bool := Nat.beq k 4 || Nat.beq k 5
def qIsInt : B1T := fun _ => isW tInt
def qIsBool : B1T := fun _ => isW (Nat.beq 1)
def qIsTuple : B1T := fun _ => isW (Nat.beq 4)
def qIsStr : B1T := fun _ => isW (Nat.beq 3)
def qIsList : B1T := fun _ => isW (Nat.beq 5)
def qIsTL : B1T := fun _ => isW tTL
def qLenSet : B1T := fun Γ a m => getL m a fun _ xs => ifB (allL isNum xs && Nat.ble xs.length 62) (lift (dedW Γ.lo Γ.hi m [] xs) fun zs => .ok (.int (Int.ofNat zs.length)) m) (.er (.stuck 55))
/-! tuples of whole numbers that are not below 0 -/
def sgn2 (lo hi : Int) (a b : W) : Except Er Nat := match a with
  | .int x => (match b with
    | .int y => .ok (sgn (x - y))
    | .aff c k => signOf lo hi (x - c) (0 - k)
    | _ => .error (.stuck 55))
  | .aff c k => (match b with
    | .int y => signOf lo hi (c - y) k
    | .aff c' k' => signOf lo hi (c - c') (k - k')
    | _ => .error (.stuck 55))
  | _ => .error (.stuck 55)
def cmp3 (lo hi : Int) (xs : List W) : List W → Except Er Nat := List.rec (motive := fun _ => List W → Except Er Nat) (fun _ => .ok 1)
  (fun x _ r ys => List.casesOn ys (.ok 1) fun y ys => exB (sgn2 lo hi x y) fun s => Bool.rec (.ok s) (r ys) (Nat.beq s 1)) xs
def tupI (w : W) : List W := match w with
  | .tup ws => ws
  | _ => []
def insU (lo hi : Int) (x : W) (l : List W) : Except Er (List W) := List.rec (.ok [x]) (fun y ys r => exB (cmp3 lo hi (tupI x) (tupI y)) fun s => Nat.casesOn s (.ok (x :: y :: ys)) fun s' => Nat.casesOn s' (.ok (y :: ys)) fun _ => exB r fun zs => .ok (y :: zs)) l
def sortU (lo hi : Int) (l : List W) : List W → Except Er (List W) := List.rec (motive := fun _ => List W → Except Er (List W)) (fun acc => .ok acc) (fun x _ r acc => exB (insU lo hi x acc) r) l
def nnW (lo hi : Int) (w : W) : EB := match w with
  | .int i => .ok (!ilt i 0)
  | .aff c k => exB (signOf lo hi c k) fun s => .ok (!(Nat.beq s 0))
  | _ => .ok false
def nnL (lo hi : Int) (l : List W) : EB := List.rec (.ok true) (fun x _ r => exIf (nnW lo hi x) r (.ok false)) l
def tupOk1 (lo hi : Int) (d : Nat) (w : W) : EB := match w with
  | .tup ws => ifB (Nat.beq ws.length d && allL isNum ws) (nnL lo hi ws) (.ok false)
  | _ => .ok false
def tupsOk (lo hi : Int) (d : Nat) (l : List W) : EB := List.rec (.ok true) (fun x _ r => exIf (tupOk1 lo hi d x) r (.ok false)) l
def dimOf (l : List W) : Nat := List.casesOn l 0 fun x _ => (tupI x).length
def qSortedSetN : Pg → List W → M → RE W := fun Γ xs m => lift (dedW Γ.lo Γ.hi m [] xs) fun zs => lift (sortW Γ.lo Γ.hi m zs) fun ys => newL ys m
def qSortedSetT : Pg → List W → M → RE W := fun Γ xs m => lift (tupsOk Γ.lo Γ.hi (dimOf xs) xs) fun b => ifB (b && Nat.blt 0 (dimOf xs)) (lift (sortU Γ.lo Γ.hi xs []) fun ys => newL ys m) (.er (.stuck 55))
def qSortedSet : B1T := fun Γ a m => getL m a fun _ xs => ifB (allL isNum xs && Nat.ble xs.length 62) (qSortedSetN Γ xs m) (.er (.stuck 55))
def qSortedSetU : B1T := fun Γ a m => getL m a fun _ xs => ifB (Nat.ble xs.length 62) (qSortedSetT Γ xs m) (.er (.stuck 55))
def qPop : B1T := fun _ a m => getL m a fun n xs => liftO 19 (nth xs (xs.length - 1)) fun w => .ok w (m.put n (.lst xs.dropLast))
def qValues : B1T := fun _ a m => getD m a fun _ t kvs => ifB t (.er (.stuck 53)) (okL kvs (newL (kvs.map (·.2)) m))
def qStr : B1T := fun _ _ _ => .er (.stuck 21)
def qSortItems : B1T := fun Γ a m => getD m a fun _ t kvs => ifB t (lift (sortW Γ.lo Γ.hi m (kvs.map fun p => .tup [p.1, p.2])) fun ys => newL ys m) (.er (.stuck 53))
def qSumVals : B1T := fun _ a m => getD m a fun _ t kvs => ifB t (liftW (sumW (.int 0) (kvs.map (·.2))) m) (.er (.stuck 53))
def qDcopy : B1T := fun _ a m => getD m a fun _ t kvs => ifB t (.er (.stuck 53)) (.ok (.ref m.next) (m.new (.dict t kvs)))
def qRevL : B1T := fun _ a m => getL m a fun _ xs => newL xs.reverse m
def dispB1 : B1 → B1T := @B1.rec (fun _ => B1T) qLen qAll qAny qSum qSorted qTuple qList qInt qAbs qMin qMax
  qIsInt qIsBool qIsTuple qIsStr qIsList qIsTL qLenSet qSortedSet qPop qValues qStr qSortItems qSumVals qDcopy qRevL qSortedSetU
def b1W (Γ : Pg) (o : B1) (a : W) (m : M) : RE W := dispB1 o Γ a m

abbrev B2T := Pg → W → W → M → RE W
def rMin : B2T := fun Γ a b m => ifB (isNum a && isNum b) (lift (ltN Γ.lo Γ.hi m 12 b a) fun c => .ok (ifB c b a) m) (.er (.stuck 2))
def rMax : B2T := fun Γ a b m => ifB (isNum a && isNum b) (lift (ltN Γ.lo Γ.hi m 12 a b) fun c => .ok (ifB c b a) m) (.er (.stuck 2))
def rAppend : B2T := fun _ a b m => getL m a fun n xs => okL xs (.ok .non (m.put n (.lst (xs ++ [b]))))
def rExtend : B2T := fun _ a b m => getL m a fun n xs => lift (seqI m b) fun ys => okL xs (okL ys (.ok .non (m.put n (.lst (xs ++ ys)))))
def rIndex : B2T := fun Γ a b m => getL m a fun _ xs => ifB (dtN m 12 b && allL (dtN m 12) xs) (lift (idxW Γ.lo Γ.hi m b 0 xs) fun i => .ok (.int (Int.ofNat i)) m) (.er (.stuck 1))
def rCount : B2T := fun Γ a b m => getL m a fun _ xs => ifB (dtN m 12 b && allL (dtN m 12) xs) (lift (cntW Γ.lo Γ.hi m b 0 xs) fun i => .ok (.int (Int.ofNat i)) m) (.er (.stuck 1))
def rRemove : B2T := fun Γ a b m => getL m a fun n xs => ifB (dtN m 12 b && allL (dtN m 12) xs) (lift (idxW Γ.lo Γ.hi m b 0 xs) fun i => .ok .non (m.put n (.lst (xs.eraseIdx i)))) (.er (.stuck 1))
def rPopAt : B2T := fun Γ a b m => getL m a fun n xs => match b with
  | .int (.ofNat j) => ifB (Nat.blt j 1000000000) (liftO 23 (nth xs j) fun w => .ok w (m.put n (.lst (xs.eraseIdx j)))) (.er (.stuck 23))
  | _ => .er (.stuck 23)
def rGet : B2T := fun Γ a b m => getD m a fun _ t kvs => ifB (keyOk t b) (lift (findW Γ.lo Γ.hi b kvs) fun o => .ok (o.getD .non) m) (.er (.stuck 51))
def dispB2 : B2 → B2T := @B2.rec (fun _ => B2T) rMin rMax rAppend rExtend rIndex rCount rRemove rPopAt rGet
def b2W (Γ : Pg) (o : B2) (a b : W) (m : M) : RE W := dispB2 o Γ a b m
def b3W (Γ : Pg) (o : B3) (a b c : W) (m : M) : RE W := getD m a fun n t kvs => ifB (keyOk t b) (lift (findW Γ.lo Γ.hi b kvs) fun q => B3.casesOn o (.ok (q.getD c) m)
  (ifB t (.er (.stuck 53)) (okL kvs (Option.rec (lift (putW Γ.lo Γ.hi b c kvs) fun l => .ok c (m.put n (.dict t l))) (fun w => .ok w m) q)))) (.er (.stuck 51))
/-- what a must be, ahead of the arguments -/
def preB2 (o : B2) (m : M) (a : W) : Bool := B2.casesOn o true true (isLst m a) (isLst m a) (isLst m a) (isLst m a) (isLst m a) (isLst m a) (isDic m a)
/-- a[b] = w -/
def setW (Γ : Pg) (a b w : W) (m : M) : RE Unit := match a with
  | .ref n => (match m.get n with
    | some (.lst xs) => (match b with
      | .int i => liftO 26 (place xs.length i) fun j => .ok () (m.put n (.lst (xs.set j w)))
      | _ => .er (.stuck 26))
    | some (.dict t kvs) => ifB (keyOk t b) (okL kvs (lift (putW Γ.lo Γ.hi b w kvs) fun l => .ok () (m.put n (.dict t l)))) (.er (.stuck 51))
    | _ => .er (.stuck 26))
  | _ => .er (.stuck 26)

/-- what is walked -/
inductive Iv where
  | tup (xs : List W) | lst (n : Ad) | rng (a : Int) (k : Nat) | enT (xs : List W) | enL (n : Ad) | dic (n : Ad) | itm (n : Ad) | val (n : Ad) | zip (a b : Iv)
  deriving Inhabited
abbrev AtT := M → Nat → Except Er (Option W)
def atL (n : Ad) (f : List W → Option W) : M → Except Er (Option W) := fun m => match m.get n with
  | some (.lst xs) => .ok (f xs)
  | _ => .error (.stuck 27)
def atD (n : Ad) (f : List (W × W) → Option W) : M → Except Er (Option W) := fun m => match m.get n with
  | some (.frd _ kvs) => .ok (f kvs)
  | _ => .error (.stuck 27)
def pairI (i : Nat) (w : Option W) : Option W := Option.rec none (fun w => some (.tup [.int (Int.ofNat i), w])) w
/-- the i-th item: none: the end -/
def Iv.at (v : Iv) : AtT := Iv.rec (motive := fun _ => AtT) (fun xs _ i => .ok (nth xs i)) (fun n m i => atL n (fun xs => nth xs i) m)
  (fun a k _ i => .ok (Bool.rec none (some (.int (a + Int.ofNat i))) (Nat.blt i k))) (fun xs _ i => .ok (pairI i (nth xs i))) (fun n m i => atL n (fun xs => pairI i (nth xs i)) m)
  (fun n m i => atD n (fun kvs => Option.rec none (fun p => some p.1) (nth kvs i)) m) (fun n m i => atD n (fun kvs => Option.rec none (fun p => some (.tup [p.1, p.2])) (nth kvs i)) m)
  (fun n m i => atD n (fun kvs => Option.rec none (fun p => some p.2) (nth kvs i)) m)
  (fun _ _ f g m i => exB (f m i) fun x => exB (g m i) fun y => .ok (Option.rec none (fun x => Option.rec none (fun y => some (.tup [x, y])) y) x)) v
def seqIv (m : M) (a : W) : Except Er Iv := match a with
  | .tup xs => .ok (.tup xs)
  | .ref n => (match m.get n with
    | some (.lst _) => .ok (.lst n)
    | _ => .error (.stuck 28))
  | _ => .error (.stuck 28)
def enIv (m : M) (a : W) : Except Er Iv := match a with
  | .tup xs => .ok (.enT xs)
  | .ref n => (match m.get n with
    | some (.lst _) => .ok (.enL n)
    | _ => .error (.stuck 28))
  | _ => .error (.stuck 28)
/-! ### the evaluator -/
structure Ev where
  e : Nat → Ex → Sl → M → RE W
  s : Nat → List Sx → Sl → M → RS
  /-- without effects: a lambda's body -/
  p : Ex → Sl → M → Except Er W

section
variable (Γ : Pg) (ih : Ev) (d : Nat)
def evL (σ : Sl) (l : List Ex) : M → RE (List W) := List.rec (motive := fun _ => M → RE (List W)) (fun m => .ok [] m)
  (fun x _ r m => REbind (ih.e d x σ m) fun w m1 => REbind (r m1) fun ws m2 => .ok (w :: ws) m2) l
def intI {α : Type} (w : W) (f : Int → RE α) : RE α := match w with
  | .int i => f i
  | _ => .er (.stuck 14)
def evO (σ : Sl) (o : Option Ex) (m : M) : RE (Option Int) := Option.rec (.ok none m) (fun x => REbind (ih.e d x σ m) fun w m1 => intI w fun i => .ok (some i) m1) o
def tb0 : W → Option Bool := @W.rec (fun _ => Option Bool) (fun _ => Unit) none (fun b => some b) (fun _ => none) (fun _ _ => none) (fun _ => none) (fun _ _ => none) (fun _ => none) (fun _ => none) () (fun _ _ _ _ => ())
def tb (_ : Nat) : W → Option Bool := tb0
def onB {α : Type} (w : W) (f : Bool → RE α) : RE α := liftO 30 (tb 0 w) f
def evAn (σ : Sl) (l : List Ex) : M → RE W := List.rec (motive := fun _ => M → RE W) (fun m => .ok (.bl true) m)
  (fun x _ r m => REbind (ih.e d x σ m) fun w m1 => onB w fun b => Bool.rec (.ok (.bl false) m1) (r m1) b) l
def evOr (σ : Sl) (l : List Ex) : M → RE W := List.rec (motive := fun _ => M → RE W) (fun m => .ok (.bl false) m)
  (fun x _ r m => REbind (ih.e d x σ m) fun w m1 => onB w fun b => Bool.rec (r m1) (.ok (.bl true) m1) b) l
def evVr (i : Nat) (σ : Sl) (m : M) : RE W := liftO 31 (nth σ i) fun o => liftO 31 o fun w => .ok w m
def evChain (o p : Co) (a b c : Ex) (σ : Sl) (m : M) : RE W :=
  REbind (ih.e d a σ m) fun x m1 => REbind (ih.e d b σ m1) fun y m2 => lift (cmpW Γ o x y m2) fun r =>
    ifB r (REbind (ih.e d c σ m2) fun z m3 => okB (cmpW Γ p y z m3) m3) (.ok (.bl false) m2)
def evChain3 (o p q : Co) (a b c e : Ex) (σ : Sl) (m : M) : RE W :=
  REbind (ih.e d a σ m) fun x m1 => REbind (ih.e d b σ m1) fun y m2 => lift (cmpW Γ o x y m2) fun r =>
    ifB r (REbind (ih.e d c σ m2) fun z m3 => lift (cmpW Γ p y z m3) fun r2 =>
      ifB r2 (REbind (ih.e d e σ m3) fun u m4 => okB (cmpW Γ q z u m4) m4) (.ok (.bl false) m3)) (.ok (.bl false) m2)
def setSl (σ : Sl) (n : Nat) (w : Option W) : Sl := List.rec (motive := fun _ => Nat → Sl) (fun _ => []) (fun x xs ih n => Nat.casesOn n (w :: xs) (fun k => x :: ih k)) σ n
def wipeW (σ : Sl) (l : List Nat) : Sl := List.rec σ (fun v _ r => setSl r v none) l
/-- a row of draws: a list [script, i, s, t], 0 ≤ i, or one that has been drawn from -/
def isRowL (m : M) (xs : List W) : Bool := match xs with
  | [.ref a, .int (.ofNat _), .int _, .int _] => (match m.get a with
    | some .scr => true
    | _ => false)
  | _ => false
def isRow (m : M) (n : Ad) : Bool := match m.get n with
  | some .row => true
  | some (.lst xs) => isRowL m xs
  | _ => false
/-- a row that has not been drawn from -/
def isNewL (m : M) (seed : Int) (xs : List W) : Bool := match xs with
  | [.ref a, .int i, .int s, .int t] => (match m.get a with
    | some .scr => ieq i 0 && (ieq s seed && ieq t 0)
    | _ => false)
  | _ => false
def isNew (m : M) (seed : Int) (n : Ad) : Bool := match m.get n with
  | some (.lst xs) => isNewL m seed xs
  | _ => false
/-- a narrow draw: any number; a wide one, from a new row: the letter -/
def narrow (n : Ad) (many : Nat) (m : M) : Bool := Nat.blt many 17 || (Nat.blt many 100 && !(isNew m Γ.seed n && Nat.beq many Γ.many))
def drawT (n : Ad) (many : Nat) (m : M) : RE W := ifB (Nat.blt 0 many && Nat.blt many 1073741824) (ifB (narrow Γ n many m)
  (ifB (isRow m n) (.draw many fun w => .ok w (m.put n .row)) (.er (.stuck 33)))
  (ifB (isNew m Γ.seed n && Nat.beq many Γ.many) (.ok (ifB (ieq Γ.lo Γ.hi) (.int Γ.lo) (.aff 0 1)) (m.put n .row)) (.er (.stuck 32)))) (.er (.stuck 34))
def drawW (args : List W) (m : M) : RE W := match args with
  | [.ref n, .int (.ofNat many)] => drawT Γ n many m
  | _ => .er (.stuck 34)
def ofRS (r : RS) : RE W := RS.rec (fun _ m => .ok .non m) (fun _ _ => .er (.stuck 35)) (fun _ _ => .er (.stuck 35)) (fun w m => .ok w m) (fun x _ m => .exc x m) (fun e => .er e) (fun n _ r => .draw n r) r
def startW (n : Nat) (args : List W) : Sl := args.map some ++ List.replicate (n - args.length) none
def runFn (f : Fn) (args : List W) (m : M) : RE W := Nat.casesOn d (.er .fuel) fun d' => ofRS (ih.s d' f.b (startW f.n args) m)
def callD (args : List W) (m : M) (o : Df) : RE W := Df.casesOn o (fun f => runFn ih d f args m) (drawW Γ args m) (.er (.stuck 65))
def callW (f : Nat) (args : List W) (m : M) : RE W := liftO 36 (nth Γ.df f) fun o => callD Γ ih d args m o
/-- an exception out of a comprehension is not carried -/
def noExc {α : Type} (x : RE α) : RE α := RE.rec (fun a m => .ok a m) (fun _ _ => .er (.stuck 39)) (fun e => .er e) (fun n _ r => .draw n r) x
def fldGet (f : Nat) : List (Nat × W) → Option W
  | [] => none
  | p :: ps => ifB (Nat.beq p.1 f) (some p.2) (fldGet f ps)
def fldPut (f : Nat) (w : W) : List (Nat × W) → List (Nat × W)
  | [] => [(f, w)]
  | p :: ps => ifB (Nat.beq p.1 f) ((f, w) :: ps) (p :: fldPut f w ps)
def getI {α : Type} (m : M) (a : W) (f : Ad → Nat → List (Nat × W) → RE α) : RE α := match a with
  | .ref n => (match m.get n with
    | some (.ins c fs) => f n c fs
    | _ => .er (.stuck 43))
  | _ => .er (.stuck 43)
def getF (a : W) (f : Nat) (m : M) : RE W := getI m a fun _ _ fs => liftO 43 (fldGet f fs) fun w => .ok w m
def setF (a : W) (f : Nat) (w : W) (m : M) : RE Unit := getI m a fun n c fs => ifB (Nat.blt fs.length 900) (.ok () (m.put n (.ins c (fldPut f w fs)))) (.er (.stuck 43))
def methOf (k : Nat) : List (Nat × Nat × Nat) → Option (Nat × Nat)
  | [] => none
  | p :: ps => ifB (Nat.beq p.1 k) (some p.2) (methOf k ps)
/-- the method k of an instance -/
def methF (a : W) (k : Nat) (m : M) (g : Nat × Nat → RE W) : RE W := getI m a fun _ c _ => liftO 44 (nth Γ.cl c) fun ms => liftO 44 (methOf k ms) g
def onNon (w : W) (r : RE W) : RE W := match w with
  | .non => r
  | _ => .er (.stuck 44)
/-- a new instance, its __init__ (method 0) run -/
def mkW (c : Nat) (args : List W) (m : M) : RE W := liftO 44 (nth Γ.cl c) fun ms => liftO 44 (methOf 0 ms) fun f => ifB (Nat.beq (args.length + 1) f.2)
  (REbind (noExc (callW Γ ih d f.1 (.ref m.next :: args) (m.new (.ins c [])))) fun w m1 => onNon w (.ok (.ref m.next) m1)) (.er (.stuck 36))

/-- the store of a value -/
abbrev TgT := (Tg → W → Sl → M → RE Sl) → Pg → Ev → Nat → W → Sl → M → RE Sl
def tNm (i : Nat) : TgT := fun _ _ _ _ w σ m => .ok (setSl σ i (some w)) m
def tgAll (tg : Tg → W → Sl → M → RE Sl) (l : List Tg) : List W → Sl → M → RE Sl := List.rec (motive := fun _ => List W → Sl → M → RE Sl) (fun _ σ m => .ok σ m)
  (fun t _ r ws σ m => List.casesOn ws (.ok σ m) fun w ws => REbind (tg t w σ m) fun σ1 m1 => r ws σ1 m1) l
def tTp (l : List Tg) : TgT := fun tg _ _ _ w σ m => match w with
  | .tup ws => ifB (Nat.beq ws.length l.length) (tgAll tg l ws σ m) (.er (.stuck 37))
  | _ => .er (.stuck 37)
def tIx (a b : Ex) : TgT := fun _ Γ ih d w σ m => REbind (ih.e d a σ m) fun x m1 => REbind (ih.e d b σ m1) fun y m2 => REbind (setW Γ x y w m2) fun _ m3 => .ok σ m3
def tFld (a : Ex) (f : Nat) : TgT := fun _ Γ ih d w σ m => REbind (ih.e d a σ m) fun x m1 => REbind (setF x f w m1) fun _ m2 => .ok σ m2
def dispTg : Tg → TgT := @Tg.rec (fun _ => Unit) (fun _ => TgT) (fun _ => Unit) (fun _ => Unit) (fun _ => Unit) (fun _ => Unit) (fun _ => Unit) (fun _ => Unit) (fun _ => Unit) (fun _ => Unit)
  (fun _ => ()) (fun _ => ()) (fun _ => ()) (fun _ _ _ _ _ => ()) (fun _ _ => ()) (fun _ _ _ _ _ => ()) (fun _ _ _ _ _ _ _ _ => ()) (fun _ _ _ _ _ _ _ _ _ _ _ => ()) (fun _ _ => ()) (fun _ _ => ()) (fun _ _ _ => ()) (fun _ _ _ => ()) (fun _ _ => ()) (fun _ _ => ()) (fun _ _ => ()) (fun _ _ _ _ _ _ => ()) (fun _ _ => ()) (fun _ _ => ()) (fun _ _ _ _ => ()) (fun _ _ _ _ _ _ => ()) (fun _ _ _ => ()) (fun _ _ _ => ()) (fun _ _ _ _ _ => ()) (fun _ _ _ _ _ _ _ => ()) (fun _ _ _ _ => ()) (fun _ _ _ _ => ()) (fun _ _ _ _ _ _ _ _ _ => ()) (fun _ _ _ _ _ _ _ _ _ _ _ _ _ _ _ _ => ()) (fun _ => ()) (fun _ _ => ()) (fun _ _ => ()) (fun _ _ => ()) (fun _ _ _ _ _ => ()) (fun _ _ _ _ _ => ()) (fun _ _ _ _ _ _ _ => ()) (fun _ _ _ => ()) (fun _ _ _ _ _ => ()) (fun _ _ _ => ()) (fun _ => ()) (fun _ _ _ => ()) (fun _ _ _ => ()) ()
  tNm (fun l _ => tTp l) (fun a b _ _ => tIx a b) (fun a f _ => tFld a f) (fun _ _ => ()) (fun _ _ _ _ => ()) (fun _ _ => ()) (fun _ _ => ()) (fun _ _ => ()) (fun _ _ _ _ => ()) () (fun _ _ _ _ => ()) () (fun _ _ => ()) () (fun _ _ _ _ => ()) () (fun _ _ _ _ => ()) () (fun _ _ _ _ => ()) (fun _ _ _ _ => ()) (fun _ _ _ => ())
def tgS (tg : Tg → W → Sl → M → RE Sl) (t : Tg) (w : W) (σ : Sl) (m : M) : RE Sl := dispTg t tg Γ ih d w σ m
def tgN (f : Nat) : Tg → W → Sl → M → RE Sl := Nat.rec (fun _ _ _ _ => .er .fuel) (fun _ r => tgS Γ ih d r) f
def tgW : Tg → W → Sl → M → RE Sl := tgN Γ ih d 6

abbrev ItT := Pg → Ev → Nat → Sl → M → RE Iv
def liftI (x : Except Er Iv) (m : M) : RE Iv := lift x fun v => .ok v m
/-- .. or a locked dict's keys -/
def seqIvD (m : M) (a : W) : Except Er Iv := match a with
  | .ref n => (match m.get n with
    | some (.frd _ _) => .ok (.dic n)
    | _ => seqIv m a)
  | a => seqIv m a
def isVr : Ex → Bool := @Ex.rec (fun _ => Bool) (fun _ => Unit) (fun _ => Unit) (fun _ => Unit) (fun _ => Unit) (fun _ => Unit) (fun _ => Unit) (fun _ => Unit) (fun _ => Unit) (fun _ => Unit)
  (fun _ => true) (fun _ => false) (fun _ => false) (fun _ _ _ _ _ => false) (fun _ _ => false) (fun _ _ _ _ _ => false) (fun _ _ _ _ _ _ _ _ => false) (fun _ _ _ _ _ _ _ _ _ _ _ => false) (fun _ _ => false) (fun _ _ => false) (fun _ _ _ => false) (fun _ _ _ => false) (fun _ _ => false) (fun _ _ => false) (fun _ _ => false) (fun _ _ _ _ _ _ => false) (fun _ _ => false) (fun _ _ => false) (fun _ _ _ _ => false) (fun _ _ _ _ _ _ => false) (fun _ _ _ => false) (fun _ _ _ => false) (fun _ _ _ _ _ => false) (fun _ _ _ _ _ _ _ => false) (fun _ _ _ _ => false) (fun _ _ _ _ => false) (fun _ _ _ _ _ _ _ _ _ => false) (fun _ _ _ _ _ _ _ _ _ _ _ _ _ _ _ _ => false) (fun _ => false) (fun _ _ => false) (fun _ _ => false) (fun _ _ => false) (fun _ _ _ _ _ => false) (fun _ _ _ _ _ => false) (fun _ _ _ _ _ _ _ => false) (fun _ _ _ => false) (fun _ _ _ _ _ => false) (fun _ _ _ => false) (fun _ => false) (fun _ _ _ => false) (fun _ _ _ => false) false
  (fun _ => ()) (fun _ _ => ()) (fun _ _ _ _ => ()) (fun _ _ _ => ()) (fun _ _ => ()) (fun _ _ _ _ => ()) (fun _ _ => ()) (fun _ _ => ()) (fun _ _ => ()) (fun _ _ _ _ => ()) () (fun _ _ _ _ => ()) () (fun _ _ => ()) () (fun _ _ _ _ => ()) () (fun _ _ _ _ => ()) () (fun _ _ _ _ => ()) (fun _ _ _ _ => ()) (fun _ _ _ => ())
def iSeq (e : Ex) : ItT := fun _ ih d σ m => REbind (ih.e d e σ m) fun w m1 => liftI (ifB (isVr e) (seqIvD m1 w) (seqIv m1 w)) m1
def rngOf {α : Type} (x y : W) (f : Int → Nat → RE α) : RE α := match x with
  | .int p => (match y with
    | .int q => ifB (small p && small q) (f p (q - p).toNat) (.er (.stuck 38))
    | _ => .er (.stuck 38))
  | _ => .er (.stuck 38)
def iRng (a b : Ex) : ItT := fun _ ih d σ m => REbind (ih.e d a σ m) fun x m1 => REbind (ih.e d b σ m1) fun y m2 => rngOf x y fun p n => .ok (.rng p n) m2
def iEnum (e : Ex) : ItT := fun _ ih d σ m => REbind (ih.e d e σ m) fun w m1 => liftI (enIv m1 w) m1
/-- the dict at w is locked, for good -/
def lockI (ok : Bool → Bool) (m : M) (w : W) (f : Ad → Iv) : RE Iv := match w with
  | .ref n => (match m.get n with
    | some (.dict t kvs) => ifB (ok t) (.ok (f n) (m.put n (.frd t kvs))) (.er (.stuck 28))
    | some (.frd t _) => ifB (ok t) (.ok (f n) m) (.er (.stuck 28))
    | _ => .er (.stuck 28))
  | _ => .er (.stuck 28)
def okAny (_ : Bool) : Bool := true
def iItems (e : Ex) : ItT := fun _ ih d σ m => REbind (ih.e d e σ m) fun w m1 => lockI okAny m1 w .itm
def iVals (e : Ex) : ItT := fun _ ih d σ m => REbind (ih.e d e σ m) fun w m1 => lockI not m1 w .val
/-- two lists or two tuples -/
def sameI (v u : Iv) (m : M) : RE Iv := match v, u with
  | .tup xs, .tup ys => .ok (.zip (.tup xs) (.tup ys)) m
  | .lst n, .lst k => .ok (.zip (.lst n) (.lst k)) m
  | _, _ => .er (.stuck 28)
def iZip (a b : Ex) : ItT := fun _ ih d σ m => REbind (ih.e d a σ m) fun x m1 => REbind (ih.e d b σ m1) fun y m2 => lift (seqIv m2 x) fun v => lift (seqIv m2 y) fun u => sameI v u m2
def dispIt : It → ItT := @It.rec (fun _ => Unit) (fun _ => Unit) (fun _ => ItT) (fun _ => Unit) (fun _ => Unit) (fun _ => Unit) (fun _ => Unit) (fun _ => Unit) (fun _ => Unit) (fun _ => Unit)
  (fun _ => ()) (fun _ => ()) (fun _ => ()) (fun _ _ _ _ _ => ()) (fun _ _ => ()) (fun _ _ _ _ _ => ()) (fun _ _ _ _ _ _ _ _ => ()) (fun _ _ _ _ _ _ _ _ _ _ _ => ()) (fun _ _ => ()) (fun _ _ => ()) (fun _ _ _ => ()) (fun _ _ _ => ()) (fun _ _ => ()) (fun _ _ => ()) (fun _ _ => ()) (fun _ _ _ _ _ _ => ()) (fun _ _ => ()) (fun _ _ => ()) (fun _ _ _ _ => ()) (fun _ _ _ _ _ _ => ()) (fun _ _ _ => ()) (fun _ _ _ => ()) (fun _ _ _ _ _ => ()) (fun _ _ _ _ _ _ _ => ()) (fun _ _ _ _ => ()) (fun _ _ _ _ => ()) (fun _ _ _ _ _ _ _ _ _ => ()) (fun _ _ _ _ _ _ _ _ _ _ _ _ _ _ _ _ => ()) (fun _ => ()) (fun _ _ => ()) (fun _ _ => ()) (fun _ _ => ()) (fun _ _ _ _ _ => ()) (fun _ _ _ _ _ => ()) (fun _ _ _ _ _ _ _ => ()) (fun _ _ _ => ()) (fun _ _ _ _ _ => ()) (fun _ _ _ => ()) (fun _ => ()) (fun _ _ _ => ()) (fun _ _ _ => ()) ()
  (fun _ => ()) (fun _ _ => ()) (fun _ _ _ _ => ()) (fun _ _ _ => ()) (fun e _ => iSeq e) (fun a b _ _ => iRng a b) (fun e _ => iEnum e) (fun e _ => iItems e) (fun e _ => iVals e) (fun a b _ _ => iZip a b) () (fun _ _ _ _ => ()) () (fun _ _ => ()) () (fun _ _ _ _ => ()) () (fun _ _ _ _ => ()) () (fun _ _ _ _ => ()) (fun _ _ _ _ => ()) (fun _ _ _ => ())
def evIt (i : It) (σ : Sl) (m : M) : RE Iv := dispIt i Γ ih d σ m

/-- y is put to the list at D -/
def pushD (D : Ad) (y : W) (m : M) : RE Unit := match m.get D with
  | some (.lst acc) => okL acc (.ok () (m.put D (.lst (acc ++ [y]))))
  | _ => .er (.stuck 40)
/-- a walk's turns: f does a turn -/
def walk (v : Iv) (f : W → M → RE Unit) (k : Nat) : Nat → M → RE Unit := Nat.rec (motive := fun _ => Nat → M → RE Unit) (fun _ _ => .er .fuel)
  (fun _ r i m => lift (v.at m i) fun o => Option.rec (.ok () m) (fun w => REbind (f w m) fun _ m1 => r (i + 1) m1) o) k
def compT (e : Ex) (tg : Tg) (ifs : List Ex) (σ : Sl) (D : Ad) (w : W) (m : M) : RE Unit :=
  REbind (noExc (tgW Γ ih d tg w σ m)) fun σ2 m2 => REbind (noExc (evAn ih d σ2 ifs m2)) fun c m3 => onB c fun b =>
    ifB b (REbind (noExc (ih.e d e σ2 m3)) fun y m4 => pushD D y m4) (.ok () m3)
def evComp (e : Ex) (tg : Tg) (it : It) (ifs : List Ex) (own : List Nat) (σ : Sl) (m : M) : RE W :=
  REbind (evIt Γ ih d it σ m) fun v m1 => REbind (walk v (compT Γ ih d e tg ifs (wipeW σ own) m1.next) 2000 0 (m1.new (.lst []))) fun _ m2 => .ok (.ref m1.next) m2
def compT2 (e : Ex) (tg : Tg) (ifs : List Ex) (tg1 : Tg) (it1 : It) (ifs1 : List Ex) (own1 : List Nat) (σ : Sl) (D : Ad) (w : W) (m : M) : RE Unit :=
  REbind (noExc (tgW Γ ih d tg w σ m)) fun σ2 m2 => REbind (noExc (evAn ih d σ2 ifs m2)) fun c m3 => onB c fun b =>
    ifB b (REbind (noExc (evIt Γ ih d it1 σ2 m3)) fun v m4 => walk v (compT Γ ih d e tg1 ifs1 (wipeW σ2 own1) D) 2000 0 m4) (.ok () m3)
def evComp2 (e : Ex) (tg : Tg) (it : It) (ifs : List Ex) (tg1 : Tg) (it1 : It) (ifs1 : List Ex) (own own1 : List Nat) (σ : Sl) (m : M) : RE W :=
  REbind (evIt Γ ih d it σ m) fun v m1 => REbind (walk v (compT2 Γ ih d e tg ifs tg1 it1 ifs1 own1 (wipeW σ own) m1.next) 2000 0 (m1.new (.lst []))) fun _ m2 => .ok (.ref m1.next) m2
def evL2 (σ : Sl) (l : List (Ex × Ex)) : M → RE (List (W × W)) := List.rec (motive := fun _ => M → RE (List (W × W))) (fun m => .ok [] m)
  (fun x _ r m => REbind (ih.e d x.1 σ m) fun k m1 => REbind (ih.e d x.2 σ m1) fun w m2 => REbind (r m2) fun ws m3 => .ok ((k, w) :: ws) m3) l
def evS (σ : Sl) (l : List (Bool × Ex)) : M → RE (List W) := List.rec (motive := fun _ => M → RE (List W)) (fun m => .ok [] m)
  (fun x _ r m => REbind (ih.e d x.2 σ m) fun w m1 => ifB x.1
      (lift (seqI m1 w) fun zs => REbind (r m1) fun ws m2 => .ok (zs ++ ws) m2)
      (REbind (r m1) fun ws m2 => .ok (w :: ws) m2)) l
/-- the keys of the items: p the lambda's slot -/
def keysP (p : Nat) (b : Ex) (σ : Sl) (m : M) : List W → Except Er (List W) := List.rec (.ok []) fun y _ r => exB (ih.p b (setSl σ p (some y)) m) fun k => exB r fun ks => .ok (k :: ks)
def insK (lo hi : Int) (m : M) (x : W × W) (l : List (W × W)) : Except Er (List (W × W)) := List.rec (.ok [x]) (fun y ys r => exIf (ltN lo hi m 12 x.1 y.1) (.ok (x :: y :: ys)) (exB r fun zs => .ok (y :: zs))) l
def sortP (lo hi : Int) (m : M) (l : List (W × W)) : List (W × W) → Except Er (List (W × W)) := List.rec (motive := fun _ => List (W × W) → Except Er (List (W × W))) (fun acc => .ok acc) (fun x _ r acc => exB (insK lo hi m x acc) r) l
def minP (lo hi : Int) (m : M) (l : List (W × W)) : W × W → Except Er (W × W) := List.rec (motive := fun _ => W × W → Except Er (W × W)) (fun b => .ok b) (fun y _ r b => exIf (ltN lo hi m 12 y.1 b.1) (r y) (r b)) l
def sortKW (p : Nat) (b : Ex) (σ : Sl) (xs : List W) (m : M) : RE W := ifB (Nat.ble 3 d && Nat.ble xs.length 100000)
  (lift (keysP ih p b σ m xs) fun ks => ifB (cmpOk m ks && srtOk m ks) (lift (sortP Γ.lo Γ.hi m (ks.zip xs) []) fun ys => newL (ys.map (·.2)) m) (.er (.stuck 2))) (.er .fuel)
def minKW (p : Nat) (b : Ex) (σ : Sl) (xs : List W) (m : M) : RE W := ifB (Nat.ble 3 d)
  (lift (keysP ih p b σ m xs) fun ks => ifB (cmpOk m ks) (List.casesOn (ks.zip xs) (.er (.stuck 18)) fun y ys => lift (minP Γ.lo Γ.hi m ys y) fun r => .ok r.2 m) (.er (.stuck 2))) (.er .fuel)
def putAll (lo hi : Int) (l : List (W × W)) (acc : List (W × W)) : Except Er (List (W × W)) := List.rec (motive := fun _ => List (W × W) → Except Er (List (W × W))) (fun acc => .ok acc) (fun p _ r acc => exB (putW lo hi p.1 p.2 acc) r) l acc
def isD0 (o : Option O) : Bool := match o with
  | some (.dict false []) => true
  | _ => false

abbrev Stp := Pg → Ev → Nat → Sl → M → RE W
def sVr (i : Nat) : Stp := fun _ _ _ σ m => evVr i σ m
def sCw (w : W) : Stp := fun _ _ _ _ m => .ok w m
def sGl (j : Nat) : Stp := fun Γ _ _ _ m => liftO 41 (nth Γ.gv j) fun w => .ok w m
def sBin (o : Bo) (a b : Ex) : Stp := fun Γ ih d σ m => REbind (ih.e d a σ m) fun x m1 => REbind (ih.e d b σ m1) fun y m2 => binW Γ o x y m2
def sNeg (a : Ex) : Stp := fun Γ ih d σ m => REbind (ih.e d a σ m) fun x m1 => binW Γ .sub (.int 0) x m1
def sCmp (o : Co) (a b : Ex) : Stp := fun Γ ih d σ m => REbind (ih.e d a σ m) fun x m1 => REbind (ih.e d b σ m1) fun y m2 => okB (cmpW Γ o x y m2) m2
def sCh2 (o p : Co) (a b c : Ex) : Stp := fun Γ ih d σ m => evChain Γ ih d o p a b c σ m
def sCh3 (o p q : Co) (a b c e : Ex) : Stp := fun Γ ih d σ m => evChain3 Γ ih d o p q a b c e σ m
def isNW (w : W) : Bool := match w with
  | .non => true
  | _ => false
def sIsN (a : Ex) : Stp := fun _ ih d σ m => REbind (ih.e d a σ m) fun x m1 => .ok (.bl (isNW x)) m1
def sNotN (a : Ex) : Stp := fun _ ih d σ m => REbind (ih.e d a σ m) fun x m1 => .ok (.bl (!isNW x)) m1
def sIsB (b : Bool) (a : Ex) : Stp := fun _ ih d σ m => REbind (ih.e d a σ m) fun x m1 => onB x fun c => .ok (.bl (c == b)) m1
def sNotB (b : Bool) (a : Ex) : Stp := fun _ ih d σ m => REbind (ih.e d a σ m) fun x m1 => onB x fun c => .ok (.bl (!(c == b))) m1
def sNo (a : Ex) : Stp := fun _ ih d σ m => REbind (ih.e d a σ m) fun x m1 => onB x fun b => .ok (.bl (!b)) m1
def sAn (l : List Ex) : Stp := fun _ ih d σ m => evAn ih d σ l m
def sOr (l : List Ex) : Stp := fun _ ih d σ m => evOr ih d σ l m
def sIte (c a b : Ex) : Stp := fun _ ih d σ m => REbind (ih.e d c σ m) fun x m1 => onB x fun t => Bool.rec (ih.e d b σ m1) (ih.e d a σ m1) t
def sTup (l : List Ex) : Stp := fun _ ih d σ m => REbind (evL ih d σ l m) fun ws m1 => newT ws m1
def sLst (l : List Ex) : Stp := fun _ ih d σ m => REbind (evL ih d σ l m) fun ws m1 => newL ws m1
def sIx_ (a b : Ex) : Stp := fun Γ ih d σ m => REbind (ih.e d a σ m) fun x m1 => REbind (ih.e d b σ m1) fun y m2 => ixW Γ x y m2
def sSl (a : Ex) (lo hi : Option Ex) : Stp := fun _ ih d σ m => REbind (ih.e d a σ m) fun x m1 => REbind (evO ih d σ lo m1) fun y m2 => REbind (evO ih d σ hi m2) fun z m3 => slW x y z m3
def sCall (f : Nat) (l : List Ex) : Stp := fun Γ ih d σ m => REbind (noExc (evL ih d σ l m)) fun ws m1 => callW Γ ih d f ws m1
def sB1 (o : B1) (a : Ex) : Stp := fun Γ ih d σ m => REbind (ih.e d a σ m) fun x m1 => b1W Γ o x m1
def sB2 (o : B2) (a b : Ex) : Stp := fun Γ ih d σ m => REbind (ih.e d a σ m) fun x m1 => ifB (preB2 o m1 x) (REbind (ih.e d b σ m1) fun y m2 => b2W Γ o x y m2) (.er (.stuck 52))
def sB3 (o : B3) (a b c : Ex) : Stp := fun Γ ih d σ m => REbind (ih.e d a σ m) fun x m1 => ifB (isDic m1 x) (REbind (ih.e d b σ m1) fun y m2 => REbind (ih.e d c σ m2) fun z m3 => b3W Γ o x y z m3) (.er (.stuck 52))
def sTupRng (a b : Ex) : Stp := fun _ ih d σ m => REbind (ih.e d a σ m) fun x m1 => REbind (ih.e d b σ m1) fun y m2 => rngOf x y fun p n => ifB (Nat.ble n 100000) (.ok (.tup (rngL p n)) m2) (.er (.stuck 50))
def sLstRng (a b : Ex) : Stp := fun _ ih d σ m => REbind (ih.e d a σ m) fun x m1 => REbind (ih.e d b σ m1) fun y m2 => rngOf x y fun p n => ifB (Nat.ble n 100000) (newL (rngL p n) m2) (.er (.stuck 50))
def sComp (e : Ex) (tg : Tg) (it : It) (ifs : List Ex) (own : List Nat) : Stp := fun Γ ih d σ m => evComp Γ ih d e tg it ifs own σ m
def sComp2 (e : Ex) (tg : Tg) (it : It) (ifs : List Ex) (tg1 : Tg) (it1 : It) (ifs1 : List Ex) (own own1 : List Nat) : Stp := fun Γ ih d σ m => evComp2 Γ ih d e tg it ifs tg1 it1 ifs1 own own1 σ m
def sDnew (t : Bool) : Stp := fun _ _ _ _ m => .ok (.ref m.next) (m.new (.dict t []))
def sDsp (l : List (Ex × Ex)) : Stp := fun Γ ih d σ m => REbind (evL2 ih d σ l (m.new (.dict false []))) fun ps m1 => ifB (allL (fun p => keyOk0 p.1) ps && (Nat.ble ps.length 15 && isD0 (m1.get m.next))) (lift (putAll Γ.lo Γ.hi ps []) fun q => .ok (.ref m.next) (m1.put m.next (.dict false q))) (.er (.stuck 51))
def sLstS (l : List (Bool × Ex)) : Stp := fun _ ih d σ m => REbind (evS ih d σ l m) fun ws m1 => newL ws m1
def sTupS (l : List (Bool × Ex)) : Stp := fun _ ih d σ m => REbind (evS ih d σ l m) fun ws m1 => newT ws m1
def sMinK (a : Ex) (p : Nat) (b : Ex) : Stp := fun Γ ih d σ m => REbind (ih.e d a σ m) fun x m1 => getL m1 x fun _ xs => minKW Γ ih d p b σ xs m1
def sSortK (a : Ex) (p : Nat) (b : Ex) : Stp := fun Γ ih d σ m => REbind (ih.e d a σ m) fun x m1 => getL m1 x fun _ xs => sortKW Γ ih d p b σ xs m1
def sSortKR (a c : Ex) (p : Nat) (b : Ex) : Stp := fun Γ ih d σ m => REbind (ih.e d a σ m) fun x m1 => REbind (ih.e d c σ m1) fun y m2 => rngOf x y fun i n => sortKW Γ ih d p b σ (rngL i n) m2
def sFld (a : Ex) (f : Nat) : Stp := fun _ ih d σ m => REbind (ih.e d a σ m) fun x m1 => getF x f m1
def sMeth (a : Ex) (k : Nat) (l : List Ex) : Stp := fun Γ ih d σ m => REbind (ih.e d a σ m) fun x m1 => methF Γ x k m1 fun f => REbind (noExc (evL ih d σ l m1)) fun ws m2 => ifB (Nat.beq (ws.length + 1) f.2) (noExc (callW Γ ih d f.1 (x :: ws) m2)) (.er (.stuck 36))
def sMkI (c : Nat) (l : List Ex) : Stp := fun Γ ih d σ m => @Nat.casesOn (fun _ => RE W) d (.er .fuel) fun d' => REbind (noExc (evL ih d σ l m)) fun ws m1 => mkW Γ ih d' c ws m1
def sGf (j : Nat) : Stp := fun _ _ _ _ m => .ok (.glo j) m
def onGlo (w : W) (k : Nat → RE W) : RE W := match w with
  | .glo j => k j
  | _ => .er (.stuck 61)
def sCallV (i : Nat) (l : List Ex) : Stp := fun Γ ih d σ m => REbind (evVr i σ m) fun w _ => onGlo w fun j => liftO 36 (nth Γ.ar j) fun k => REbind (noExc (evL ih d σ l m)) fun ws m1 => ifB (Nat.beq ws.length k) (callW Γ ih d j ws m1) (.er (.stuck 36))
/-- the word for an exception -/
def wordOf (p : PySem.Str × Bool) (x : Xc) : Except Er W := match x.args with
  | [] => Bool.rec (.ok (.str p.1)) (.error (.stuck 62)) p.2
  | [w] => Bool.rec (.error (.stuck 62)) (.ok (.tup [.str p.1, w])) p.2
  | _ => .error (.stuck 62)
def catchW (Γ : Pg) (r : RE W) : RE W := RE.rec (fun _ m => .ok (.str ⟨#[]⟩) m) (fun x m => liftO 63 (nth Γ.wd x.cls) fun p => lift (wordOf p x) fun w => .ok w m) (fun e => .er e) (fun n _ k => .draw n k) r
def sWord (own : List Nat) (e : Ex) : Stp := fun Γ ih d σ m => Nat.casesOn d (.er .fuel) fun d1 => Nat.casesOn d1 (.er .fuel) fun d2 => catchW Γ (ih.e d2 e (wipeW σ own) m)
def sBad : Stp := fun _ _ _ _ _ => .er (.stuck 64)
/-- the step of an expression: closed, so that the kernel shares it -/
def dispE : Ex → Stp := @Ex.rec (fun _ => Stp) (fun _ => Unit) (fun _ => Unit) (fun _ => Unit) (fun _ => Unit) (fun _ => Unit) (fun _ => Unit) (fun _ => Unit) (fun _ => Unit) (fun _ => Unit)
  sVr sCw sGl (fun o a b _ _ => sBin o a b) (fun a _ => sNeg a) (fun o a b _ _ => sCmp o a b) (fun o p a b c _ _ _ => sCh2 o p a b c) (fun o p q a b c e _ _ _ _ => sCh3 o p q a b c e) (fun a _ => sIsN a) (fun a _ => sNotN a) (fun b a _ => sIsB b a) (fun b a _ => sNotB b a) (fun a _ => sNo a) (fun l _ => sAn l) (fun l _ => sOr l) (fun c a b _ _ _ => sIte c a b) (fun l _ => sTup l) (fun l _ => sLst l) (fun a b _ _ => sIx_ a b) (fun a lo hi _ _ _ => sSl a lo hi) (fun f l _ => sCall f l) (fun o a _ => sB1 o a) (fun o a b _ _ => sB2 o a b) (fun o a b c _ _ _ => sB3 o a b c) (fun a b _ _ => sTupRng a b) (fun a b _ _ => sLstRng a b) (fun e tg it ifs own _ _ _ _ => sComp e tg it ifs own) (fun e tg it ifs tg1 it1 ifs1 own own1 _ _ _ _ _ _ _ => sComp2 e tg it ifs tg1 it1 ifs1 own own1) sDnew (fun l _ => sDsp l) (fun l _ => sLstS l) (fun l _ => sTupS l) (fun a p b _ _ => sMinK a p b) (fun a p b _ _ => sSortK a p b) (fun a c p b _ _ _ => sSortKR a c p b) (fun a f _ => sFld a f) (fun a k l _ _ => sMeth a k l) (fun c l _ => sMkI c l) sGf (fun i l _ => sCallV i l) (fun own e _ => sWord own e) sBad
  (fun _ => ()) (fun _ _ => ()) (fun _ _ _ _ => ()) (fun _ _ _ => ()) (fun _ _ => ()) (fun _ _ _ _ => ()) (fun _ _ => ()) (fun _ _ => ()) (fun _ _ => ()) (fun _ _ _ _ => ()) () (fun _ _ _ _ => ()) () (fun _ _ => ()) () (fun _ _ _ _ => ()) () (fun _ _ _ _ => ()) () (fun _ _ _ _ => ()) (fun _ _ _ _ => ()) (fun _ _ _ => ())
def stepE (x : Ex) (σ : Sl) (m : M) : RE W := dispE x Γ ih d σ m

/-- an expression in a statement: no exception comes out of it -/
def SB {α : Type} (σ : Sl) (x : RE α) (f : α → M → RS) : RS := RE.rec (fun a m => f a m) (fun _ _ => .er (.stuck 39)) (fun e => .er e) (fun n _ r => .draw n r) x
/-- a call in a statement: exceptions pass -/
def SX {α : Type} (σ : Sl) (x : RE α) (f : α → M → RS) : RS := RE.rec (fun a m => f a m) (fun x m => .exc x σ m) (fun e => .er e) (fun n _ r => .draw n r) x
def isCallE : Ex → Bool := @Ex.rec (fun _ => Bool) (fun _ => Unit) (fun _ => Unit) (fun _ => Unit) (fun _ => Unit) (fun _ => Unit) (fun _ => Unit) (fun _ => Unit) (fun _ => Unit) (fun _ => Unit)
  (fun _ => false) (fun _ => false) (fun _ => false) (fun _ _ _ _ _ => false) (fun _ _ => false) (fun _ _ _ _ _ => false) (fun _ _ _ _ _ _ _ _ => false) (fun _ _ _ _ _ _ _ _ _ _ _ => false) (fun _ _ => false) (fun _ _ => false) (fun _ _ _ => false) (fun _ _ _ => false) (fun _ _ => false) (fun _ _ => false) (fun _ _ => false) (fun _ _ _ _ _ _ => false) (fun _ _ => false) (fun _ _ => false) (fun _ _ _ _ => false) (fun _ _ _ _ _ _ => false) (fun _ _ _ => true) (fun _ _ _ => false) (fun _ _ _ _ _ => false) (fun _ _ _ _ _ _ _ => false) (fun _ _ _ _ => false) (fun _ _ _ _ => false) (fun _ _ _ _ _ _ _ _ _ => false) (fun _ _ _ _ _ _ _ _ _ _ _ _ _ _ _ _ => false) (fun _ => false) (fun _ _ => false) (fun _ _ => false) (fun _ _ => false) (fun _ _ _ _ _ => false) (fun _ _ _ _ _ => false) (fun _ _ _ _ _ _ _ => false) (fun _ _ _ => false) (fun _ _ _ _ _ => false) (fun _ _ _ => false) (fun _ => false) (fun _ _ _ => true) (fun _ _ _ => false) false
  (fun _ => ()) (fun _ _ => ()) (fun _ _ _ _ => ()) (fun _ _ _ => ()) (fun _ _ => ()) (fun _ _ _ _ => ()) (fun _ _ => ()) (fun _ _ => ()) (fun _ _ => ()) (fun _ _ _ _ => ()) () (fun _ _ _ _ => ()) () (fun _ _ => ()) () (fun _ _ _ _ => ()) () (fun _ _ _ _ => ()) () (fun _ _ _ _ => ()) (fun _ _ _ _ => ()) (fun _ _ _ => ())
def SY {α : Type} (e : Ex) (σ : Sl) (x : RE α) (f : α → M → RS) : RS := Bool.rec (SB σ x f) (SX σ x f) (isCallE e)
def SL {α : Type} (x : Except Er α) (f : α → RS) : RS := Except.rec (fun e => .er e) (fun a => f a) x
def onBS (w : W) (f : Bool → RS) : RS := Option.rec (.er (.stuck 30)) (fun b => f b) (tb 0 w)
/-- behind a loop's body: k what comes next -/
def turn (r : RS) (k : Sl → M → RS) : RS := RS.rec (fun σ m => k σ m) (fun σ m => .nx σ m) (fun σ m => k σ m) (fun w m => .rt w m) (fun x σ m => .exc x σ m) (fun e => .er e) (fun n _ r => .draw n r) r
def forW (t : Tg) (b : List Sx) (v : Iv) (k : Nat) : Nat → Sl → M → RS := Nat.rec (motive := fun _ => Nat → Sl → M → RS) (fun _ _ _ => .er .fuel)
  (fun _ r i σ m => SL (v.at m i) fun o => Option.rec (.nx σ m) (fun w => SB σ (tgW Γ ih d t w σ m) fun σ1 m1 => turn (ih.s d b σ1 m1) fun σ2 m2 => r (i + 1) σ2 m2) o) k
def whlW (c : Ex) (b : List Sx) (k : Nat) : Sl → M → RS := Nat.rec (motive := fun _ => Sl → M → RS) (fun _ _ => .er .fuel)
  (fun _ r σ m => SB σ (ih.e d c σ m) fun w m1 => onBS w fun t => Bool.rec (.nx σ m1) (turn (ih.s d b σ m1) r) t) k
def parW (is : List Nat) : List W → Sl → Sl := List.rec (motive := fun _ => List W → Sl → Sl) (fun _ σ => σ) (fun i _ r ws σ => List.casesOn ws σ fun w ws => r ws (setSl σ i (some w))) is

abbrev Sts := Pg → Ev → Nat → Sl → M → RS
def uAsg (t : Tg) (e : Ex) : Sts := fun Γ ih d σ m => SY e σ (ih.e d e σ m) fun w m1 => SB σ (tgW Γ ih d t w σ m1) fun σ2 m2 => .nx σ2 m2
def uPar (is : List Nat) (es : List Ex) : Sts := fun _ ih d σ m => SB σ (evL ih d σ es m) fun ws m1 => ifB (Nat.beq ws.length is.length) (.nx (parW is ws σ) m1) (.er (.stuck 42))
def uAugv (i : Nat) (o : Bo) (e : Ex) : Sts := fun Γ ih d σ m => SB σ (evVr i σ m) fun x m1 => SB σ (ih.e d e σ m1) fun y m2 => SB σ (augN Γ o x y m2) fun z m3 => .nx (setSl σ i (some z)) m3
def uAugx (a i : Ex) (o : Bo) (e : Ex) : Sts := fun Γ ih d σ m => SB σ (ih.e d a σ m) fun p m1 => SB σ (ih.e d i σ m1) fun q m2 => SB σ (ixW Γ p q m2) fun x m3 => SB σ (ih.e d e σ m3) fun y m4 =>
      SB σ (augN Γ o x y m4) fun z m5 => SB σ (setW Γ p q z m5) fun _ m6 => .nx σ m6
def uAugf (a : Ex) (f : Nat) (o : Bo) (e : Ex) : Sts := fun Γ ih d σ m => SB σ (ih.e d a σ m) fun p m1 => SB σ (getF p f m1) fun x m2 => SB σ (ih.e d e σ m2) fun y m3 =>
      SB σ (augN Γ o x y m3) fun z m4 => SB σ (setF p f z m4) fun _ m5 => .nx σ m5
def uEx (e : Ex) : Sts := fun _ ih d σ m => SY e σ (ih.e d e σ m) fun _ m1 => .nx σ m1
def uIff (c : Ex) (a b : List Sx) : Sts := fun _ ih d σ m => SB σ (ih.e d c σ m) fun w m1 => onBS w fun t => Bool.rec (ih.s d b σ m1) (ih.s d a σ m1) t
def uWhl (c : Ex) (b : List Sx) : Sts := fun _ ih d σ m => whlW ih d c b 2000 σ m
def uFr0 (t : Tg) (i : It) (b : List Sx) : Sts := fun Γ ih d σ m => SB σ (evIt Γ ih d i σ m) fun v m1 => forW Γ ih d t b v 2000 0 σ m1
/-- the dict that is walked, not yet locked -/
def lockO (n : Ad) (o : Option O) : Option (Ad × Bool × List (W × W)) := match o with
  | some (.dict t kvs) => some (n, t, kvs)
  | _ => none
def lockV (m : M) (w : W) : Option (Ad × Bool × List (W × W)) := match w with
  | .ref n => lockO n (m.get n)
  | _ => none
abbrev LkT := Sl → M → Option (Ad × Bool × List (W × W))
def lockI1 (i : Nat) : LkT := fun σ m => Option.rec none (fun o => Option.rec none (lockV m) o) (nth σ i)
def lockNo : LkT := fun _ _ => none
def lockE : Ex → LkT := @Ex.rec (fun _ => LkT) (fun _ => Unit) (fun _ => Unit) (fun _ => Unit) (fun _ => Unit) (fun _ => Unit) (fun _ => Unit) (fun _ => Unit) (fun _ => Unit) (fun _ => Unit)
  lockI1 (fun _ => lockNo) (fun _ => lockNo) (fun _ _ _ _ _ => lockNo) (fun _ _ => lockNo) (fun _ _ _ _ _ => lockNo) (fun _ _ _ _ _ _ _ _ => lockNo) (fun _ _ _ _ _ _ _ _ _ _ _ => lockNo) (fun _ _ => lockNo) (fun _ _ => lockNo) (fun _ _ _ => lockNo) (fun _ _ _ => lockNo) (fun _ _ => lockNo) (fun _ _ => lockNo) (fun _ _ => lockNo) (fun _ _ _ _ _ _ => lockNo) (fun _ _ => lockNo) (fun _ _ => lockNo) (fun _ _ _ _ => lockNo) (fun _ _ _ _ _ _ => lockNo) (fun _ _ _ => lockNo) (fun _ _ _ => lockNo) (fun _ _ _ _ _ => lockNo) (fun _ _ _ _ _ _ _ => lockNo) (fun _ _ _ _ => lockNo) (fun _ _ _ _ => lockNo) (fun _ _ _ _ _ _ _ _ _ => lockNo) (fun _ _ _ _ _ _ _ _ _ _ _ _ _ _ _ _ => lockNo) (fun _ => lockNo) (fun _ _ => lockNo) (fun _ _ => lockNo) (fun _ _ => lockNo) (fun _ _ _ _ _ => lockNo) (fun _ _ _ _ _ => lockNo) (fun _ _ _ _ _ _ _ => lockNo) (fun _ _ _ => lockNo) (fun _ _ _ _ _ => lockNo) (fun _ _ _ => lockNo) (fun _ => lockNo) (fun _ _ _ => lockNo) (fun _ _ _ => lockNo) lockNo
  (fun _ => ()) (fun _ _ => ()) (fun _ _ _ _ => ()) (fun _ _ _ => ()) (fun _ _ => ()) (fun _ _ _ _ => ()) (fun _ _ => ()) (fun _ _ => ()) (fun _ _ => ()) (fun _ _ _ _ => ()) () (fun _ _ _ _ => ()) () (fun _ _ => ()) () (fun _ _ _ _ => ()) () (fun _ _ _ _ => ()) () (fun _ _ _ _ => ()) (fun _ _ _ _ => ()) (fun _ _ _ => ())
def lockOf : It → LkT := @It.rec (fun _ => Unit) (fun _ => Unit) (fun _ => LkT) (fun _ => Unit) (fun _ => Unit) (fun _ => Unit) (fun _ => Unit) (fun _ => Unit) (fun _ => Unit) (fun _ => Unit)
  (fun _ => ()) (fun _ => ()) (fun _ => ()) (fun _ _ _ _ _ => ()) (fun _ _ => ()) (fun _ _ _ _ _ => ()) (fun _ _ _ _ _ _ _ _ => ()) (fun _ _ _ _ _ _ _ _ _ _ _ => ()) (fun _ _ => ()) (fun _ _ => ()) (fun _ _ _ => ()) (fun _ _ _ => ()) (fun _ _ => ()) (fun _ _ => ()) (fun _ _ => ()) (fun _ _ _ _ _ _ => ()) (fun _ _ => ()) (fun _ _ => ()) (fun _ _ _ _ => ()) (fun _ _ _ _ _ _ => ()) (fun _ _ _ => ()) (fun _ _ _ => ()) (fun _ _ _ _ _ => ()) (fun _ _ _ _ _ _ _ => ()) (fun _ _ _ _ => ()) (fun _ _ _ _ => ()) (fun _ _ _ _ _ _ _ _ _ => ()) (fun _ _ _ _ _ _ _ _ _ _ _ _ _ _ _ _ => ()) (fun _ => ()) (fun _ _ => ()) (fun _ _ => ()) (fun _ _ => ()) (fun _ _ _ _ _ => ()) (fun _ _ _ _ _ => ()) (fun _ _ _ _ _ _ _ => ()) (fun _ _ _ => ()) (fun _ _ _ _ _ => ()) (fun _ _ _ => ()) (fun _ => ()) (fun _ _ _ => ()) (fun _ _ _ => ()) ()
  (fun _ => ()) (fun _ _ => ()) (fun _ _ _ _ => ()) (fun _ _ _ => ()) (fun e _ => lockE e) (fun _ _ _ _ => lockNo) (fun _ _ => lockNo) (fun _ _ => lockNo) (fun _ _ => lockNo) (fun _ _ _ _ => lockNo) () (fun _ _ _ _ => ()) () (fun _ _ => ()) () (fun _ _ _ _ => ()) () (fun _ _ _ _ => ()) () (fun _ _ _ _ => ()) (fun _ _ _ _ => ()) (fun _ _ _ => ())
def unlO (n : Ad) (m : M) (o : Option O) (k : M → RS) : RS := match o with
  | some (.frd t kvs) => k (m.put n (.dict t kvs))
  | _ => .er (.stuck 46)
def unlockS (n : Ad) (r : RS) : RS := RS.rec (fun σ m => unlO n m (m.get n) fun m1 => .nx σ m1) (fun σ m => unlO n m (m.get n) fun m1 => .bk σ m1) (fun σ m => unlO n m (m.get n) fun m1 => .ct σ m1) (fun w m => unlO n m (m.get n) fun m1 => .rt w m1) (fun x σ m => .exc x σ m) (fun e => .er e) (fun n _ r => .draw n r) r
def uFr (t : Tg) (i : It) (b : List Sx) : Sts := fun Γ ih d σ m => Option.rec (uFr0 t i b Γ ih d σ m) (fun p => unlockS p.1 (uFr0 t i b Γ ih d σ (m.put p.1 (.frd p.2.1 p.2.2)))) (lockOf i σ m)
def uRet (e : Ex) : Sts := fun _ ih d σ m => SY e σ (ih.e d e σ m) fun w m1 => .rt w m1
def uPas : Sts := fun _ _ _ σ m => .nx σ m
def uBrk : Sts := fun _ _ _ σ m => .bk σ m
def uCnt : Sts := fun _ _ _ σ m => .ct σ m
def uRse (c : Nat) (l : List Ex) : Sts := fun _ ih d σ m => SB σ (evL ih d σ l m) fun ws m1 => .exc ⟨c, ws⟩ σ m1
def uBad : Sts := fun _ _ _ _ _ => .er (.stuck 64)
def dispS : Sx → Sts := @Sx.rec (fun _ => Sts) (fun _ => Unit)
  uAsg uPar uAugv uAugx uAugf uEx (fun c a b _ _ => uIff c a b) (fun c b _ => uWhl c b) (fun t i b _ => uFr t i b) uRet uPas uBrk uCnt uRse uBad () (fun _ _ _ _ => ())
def stepS1 (x : Sx) (σ : Sl) (m : M) : RS := dispS x Γ ih d σ m
def nxt (r : RS) (k : Sl → M → RS) : RS := RS.rec (fun σ m => k σ m) (fun σ m => .bk σ m) (fun σ m => .ct σ m) (fun w m => .rt w m) (fun x σ m => .exc x σ m) (fun e => .er e) (fun n _ r => .draw n r) r
def stepS (l : List Sx) : Sl → M → RS := List.rec (motive := fun _ => Sl → M → RS) (fun σ m => .nx σ m) (fun x _ r σ m => nxt (stepS1 Γ ih d x σ m) r) l
end
/-- a value alone -/
def unM (r : RE W) : Except Er W := RE.rec (fun w _ => .ok w) (fun _ _ => .error (.stuck 60)) (fun e => .error e) (fun _ _ _ => .error (.stuck 60)) r
def exO2 {α : Type} (c : Nat) (x : Option α) : Except Er α := Option.rec (.error (.stuck c)) (fun a => .ok a) x
def evP (p : Ex → Sl → M → Except Er W) (σ : Sl) (m : M) (l : List Ex) : Except Er (List W) := List.rec (.ok []) (fun x _ r => exB (p x σ m) fun w => exB r fun ws => .ok (w :: ws)) l
/-- an expression that changes nothing -/
def stepP (Γ : Pg) (p : Ex → Sl → M → Except Er W) (x : Ex) (σ : Sl) (m : M) : Except Er W := match x with
  | .vr i => unM (evVr i σ m)
  | .cw w => .ok w
  | .bin o a b => exB (p a σ m) fun x => exB (p b σ m) fun y => Bool.rec (.error (.stuck 60)) (unM (binW Γ o x y m)) (numB x && numB y)
  | .neg a => exB (p a σ m) fun x => Bool.rec (.error (.stuck 60)) (unM (binW Γ .sub (.int 0) x m)) (numB x)
  | .tup l => exB (evP p σ m l) fun ws => unM (newT ws m)
  | .ix a b => exB (p a σ m) fun x => exB (p b σ m) fun y => unM (ixW Γ x y m)
  | .fld a f => exB (p a σ m) fun x => unM (getF x f m)
  | _ => .error (.stuck 60)
def ev (Γ : Pg) (n : Nat) : Ev := Nat.rec ⟨fun _ _ _ _ => .er .fuel, fun _ _ _ _ => .er .fuel, fun _ _ _ => .error .fuel⟩ (fun _ r => ⟨fun d x σ m => stepE Γ r d x σ m, fun d x σ m => stepS Γ r d x σ m, fun x σ m => stepP Γ r.p x σ m⟩) n

/-- the law's call -/
def m0 : M := ⟨[true], .node (some .scr) .nil .nil⟩
def runLaw (Γ : Pg) (law : Nat) : RE W := callW Γ (ev Γ 100000) 40 law [.ref []] m0
def isTrueW (w : W) : Bool := match w with
  | .bl b => b
  | _ => false
/-- every end is True -/
def allOk (r : RE W) : Bool := RE.rec (fun w _ => isTrueW w) (fun _ _ => false) (fun _ => false) (fun n _ r => (List.range n).all fun k => r (.int (Int.ofNat k))) r

end
end Jw

/-! What the evaluator's values, heap and slots stand for in the hand layer's (HandS) heap. -/
namespace Jw
open PySem PySem.Spec PyProof.Rows L2

/-! ### the tree -/
theorem get_nil (p : Ad) : Tr.get .nil p = none := by cases p <;> rfl
theorem get_set_same (o : O) : ∀ (p : Ad) (t : Tr), Tr.get (Tr.set t p o) p = some o
  | [], t => by cases t <;> rfl
  | b :: p, t => by
    have ih := get_set_same o p
    cases t with
    | nil => cases b <;> exact ih _
    | node v l r => cases b <;> exact ih _
theorem get_set_ne (o : O) : ∀ (p q : Ad) (t : Tr), q ≠ p → Tr.get (Tr.set t p o) q = Tr.get t q
  | [], [], _, h => (h rfl).elim
  | [], c :: q, t, _ => by
    cases t with
    | nil => cases c <;> exact get_nil q
    | node v l r => cases c <;> rfl
  | b :: p, [], t, _ => by
    cases t with
    | nil => cases b <;> rfl
    | node v l r => cases b <;> rfl
  | b :: p, c :: q, t, h => by
    have hq : b = c → q ≠ p := fun e z => h (by rw [e, z])
    cases t with
    | nil =>
      cases b <;> cases c
      · exact (get_set_ne o p q .nil (hq rfl)).trans (get_nil q)
      · exact get_nil q
      · exact get_nil q
      · exact (get_set_ne o p q .nil (hq rfl)).trans (get_nil q)
    | node v l r =>
      cases b <;> cases c
      · exact get_set_ne o p q l (hq rfl)
      · rfl
      · rfl
      · exact get_set_ne o p q r (hq rfl)
def val : Ad → Nat
  | [] => 0
  | false :: p => 2 * val p
  | true :: p => 2 * val p + 1
theorem val_inc : ∀ p : Ad, val (Ad.inc p) = val p + 1
  | [] => rfl
  | false :: p => rfl
  | true :: p => by
    show 2 * val (Ad.inc p) = 2 * val p + 1 + 1
    rw [val_inc p]; omega
theorem M.get_put_same (m : M) (p : Ad) (o : O) : (m.put p o).get p = some o := by cases m; exact get_set_same o p _
theorem M.get_put_ne (m : M) (p q : Ad) (o : O) (h : q ≠ p) : (m.put p o).get q = m.get q := by cases m; exact get_set_ne o p q _ h
theorem M.get_new_same (m : M) (o : O) : (m.new o).get m.next = some o := by cases m; exact get_set_same o _ _
theorem M.get_new_ne (m : M) (q : Ad) (o : O) (h : q ≠ m.next) : (m.new o).get q = m.get q := by cases m; exact get_set_ne o _ q _ h
theorem M.next_put (m : M) (p : Ad) (o : O) : (m.put p o).next = m.next := by cases m; rfl
theorem M.next_new (m : M) (o : O) : (m.new o).next = Ad.inc m.next := by cases m; rfl

/-! ### slots -/
theorem nth_eq {α : Type} : ∀ (xs : List α) (n : Nat), nth xs n = xs[n]?
  | [], n => by cases n <;> rfl
  | x :: xs, 0 => rfl
  | x :: xs, n + 1 => by
    show nth xs n = _
    rw [nth_eq xs n]; rfl
theorem setSl_eq : ∀ (σ : Sl) (n : Nat) (w : Option W), setSl σ n w = σ.set n w
  | [], n, w => by cases n <;> rfl
  | x :: xs, 0, w => rfl
  | x :: xs, n + 1, w => by
    show x :: setSl xs n w = _
    rw [setSl_eq xs n w]; rfl

/-! ### the constants of a run -/
structure Cn where
  /-- the letter's number -/
  x : Int
  /-- where the defs and classes stand -/
  ga : Nat → Addr
  /-- the script -/
  scr : Addr
  ns : List Int
  /-- own classes -/
  cl : Nat → Addr
  fn : Nat → Str
  /-- the tables of code objects of the defs that make lambdas -/
  tb : List (Addr × Str)
  /-- exception classes, the field that they have -/
  ec : Nat → Addr := fun _ => 0
  ef : Nat → Option Str := fun _ => none
  /-- the own classes' names, the fields' and the methods' names -/
  cn : List Str := []
  fl : List Str := []
  mn : List Str := []

mutual
/-- w stands for v; T: what tuples there are -/
inductive RepV (C : Cn) (T : Addr → List V → Prop) (ι : Ad → Option Addr) : W → V → Prop
  | non : RepV C T ι .non .non
  | bl (b : Bool) : RepV C T ι (.bl b) (.bl b)
  | int (i : Int) : RepV C T ι (.int i) (.int i)
  | aff (c k : Int) : RepV C T ι (.aff c k) (.int (c + k * C.x))
  | str (x : Str) : RepV C T ι (.str x) (.str x)
  | tup {ws : List W} {vs : List V} {p : Addr} : T p vs → RepVs C T ι ws vs → RepV C T ι (.tup ws) (.ref p)
  | ref {n : Ad} {a : Addr} : ι n = some a → RepV C T ι (.ref n) (.ref a)
  | glo (k : Nat) : RepV C T ι (.glo k) (.ref (C.ga k))
inductive RepVs (C : Cn) (T : Addr → List V → Prop) (ι : Ad → Option Addr) : List W → List V → Prop
  | nil : RepVs C T ι [] []
  | cons {w : W} {v : V} {ws : List W} {vs : List V} : RepV C T ι w v → RepVs C T ι ws vs → RepVs C T ι (w :: ws) (v :: vs)
end
abbrev Im := Ad → Option Addr
def Le (ι ι' : Im) : Prop := ∀ n a, ι n = some a → ι' n = some a
theorem Le.refl (ι : Im) : Le ι ι := fun _ _ h => h
theorem Le.trans {ι ι1 ι2 : Im} (a : Le ι ι1) (b : Le ι1 ι2) : Le ι ι2 := fun n x h => b n x (a n x h)
def TLe (T T' : Addr → List V → Prop) : Prop := ∀ p vs, T p vs → T' p vs
section
variable {C : Cn} {T T' : Addr → List V → Prop} {ι ι' : Im}
mutual
theorem RepV.monoT (hT : TLe T T') (hι : Le ι ι') : ∀ {w : W} {v : V}, RepV C T ι w v → RepV C T' ι' w v
  | _, _, .non => .non
  | _, _, .bl b => .bl b
  | _, _, .int i => .int i
  | _, _, .aff c k => .aff c k
  | _, _, .str x => .str x
  | _, _, .tup h r => .tup (hT _ _ h) (RepVs.monoT hT hι r)
  | _, _, .ref h => .ref (hι _ _ h)
  | _, _, .glo k => .glo k
theorem RepVs.monoT (hT : TLe T T') (hι : Le ι ι') : ∀ {ws : List W} {vs : List V}, RepVs C T ι ws vs → RepVs C T' ι' ws vs
  | _, _, .nil => .nil
  | _, _, .cons h r => .cons (RepV.monoT hT hι h) (RepVs.monoT hT hι r)
end
theorem RepVs.length : ∀ {ws : List W} {vs : List V}, RepVs C T ι ws vs → ws.length = vs.length
  | _, _, .nil => rfl
  | _, _, .cons _ r => by rw [List.length_cons, List.length_cons, RepVs.length r]
theorem RepVs.get : ∀ {ws : List W} {vs : List V} {i : Nat} {w : W}, RepVs C T ι ws vs → ws[i]? = some w → ∃ v, vs[i]? = some v ∧ RepV C T ι w v
  | _, _, _, _, .nil, e => by simp at e
  | _, _, 0, _, .cons h _, e => by simp at e; subst e; exact ⟨_, rfl, h⟩
  | _, _, i + 1, _, .cons _ r, e => by
    obtain ⟨v, h1, h2⟩ := RepVs.get (i := i) r (by simpa using e)
    exact ⟨v, by simpa using h1, h2⟩
theorem RepVs.append : ∀ {ws ws' : List W} {vs vs' : List V}, RepVs C T ι ws vs → RepVs C T ι ws' vs' → RepVs C T ι (ws ++ ws') (vs ++ vs')
  | _, _, _, _, .nil, s => s
  | _, _, _, _, .cons h r, s => .cons h (RepVs.append r s)
theorem RepVs.set {w : W} {v : V} (q : RepV C T ι w v) : ∀ {ws : List W} {vs : List V} (i : Nat), RepVs C T ι ws vs → RepVs C T ι (ws.set i w) (vs.set i v)
  | _, _, _, .nil => .nil
  | _, _, 0, .cons _ r => .cons q r
  | _, _, i + 1, .cons h r => .cons h (RepVs.set q i r)
theorem RepVs.drop : ∀ {ws : List W} {vs : List V} (n : Nat), RepVs C T ι ws vs → RepVs C T ι (ws.drop n) (vs.drop n)
  | _, _, 0, r => r
  | _, _, _ + 1, .nil => .nil
  | _, _, n + 1, .cons _ r => RepVs.drop n r
theorem RepVs.take : ∀ {ws : List W} {vs : List V} (n : Nat), RepVs C T ι ws vs → RepVs C T ι (ws.take n) (vs.take n)
  | _, _, 0, _ => .nil
  | _, _, _ + 1, .nil => .nil
  | _, _, n + 1, .cons h r => .cons h (RepVs.take n r)
theorem RepVs.dropLast {ws : List W} {vs : List V} (r : RepVs C T ι ws vs) : RepVs C T ι ws.dropLast vs.dropLast := by
  rw [List.dropLast_eq_take, List.dropLast_eq_take, r.length]
  exact r.take _
theorem RepVs.eraseIdx : ∀ {ws : List W} {vs : List V} (n : Nat), RepVs C T ι ws vs → RepVs C T ι (ws.eraseIdx n) (vs.eraseIdx n)
  | _, _, _, .nil => .nil
  | _, _, 0, .cons _ r => r
  | _, _, n + 1, .cons h r => .cons h (RepVs.eraseIdx n r)
theorem RepVs.reverse : ∀ {ws : List W} {vs : List V}, RepVs C T ι ws vs → RepVs C T ι ws.reverse vs.reverse
  | _, _, .nil => .nil
  | _, _, .cons h r => by
    rw [List.reverse_cons, List.reverse_cons]
    exact (RepVs.reverse r).append (.cons h .nil)
end

/-! ### keys -/
/-- what a key is -/
inductive KR (C : Cn) : W → Key → Prop
  | int (i : Int) : KR C (.int i) (.inl i)
  | aff (c k : Int) : KR C (.aff c k) (.inl (c + k * C.x))
  | str (x : Str) : KR C (.str x) (.inr x)
inductive KRs (C : Cn) : List W → List Key → Prop
  | nil : KRs C [] []
  | cons {w : W} {k : Key} {ws : List W} {ks : List Key} : KR C w k → KRs C ws ks → KRs C (w :: ws) (k :: ks)
inductive KRT (C : Cn) : W → List Key → Prop
  | mk {ws : List W} {ks : List Key} : KRs C ws ks → KRT C (.tup ws) ks
/-- the entries of a dict -/
inductive RepK (C : Cn) (T : Addr → List V → Prop) (ι : Im) {κ : Type} (R : W → κ → Prop) : List (W × W) → List (κ × V) → Prop
  | nil : RepK C T ι R [] []
  | cons {a : W} {k : κ} {w : W} {v : V} {l : List (W × W)} {r : List (κ × V)} : R a k → RepV C T ι w v → RepK C T ι R l r → RepK C T ι R ((a, w) :: l) ((k, v) :: r)
theorem RepK.monoT {C : Cn} {T T' : Addr → List V → Prop} {ι ι' : Im} (hT : TLe T T') (hι : Le ι ι') {κ : Type} {R : W → κ → Prop} : ∀ {l : List (W × W)} {r : List (κ × V)}, RepK C T ι R l r → RepK C T' ι' R l r
  | _, _, .nil => .nil
  | _, _, .cons e a b => .cons e (a.monoT hT hι) (RepK.monoT hT hι b)

/-- the fields of an instance -/
inductive RepF (C : Cn) (T : Addr → List V → Prop) (ι : Im) : List (Nat × W) → List (Str × V) → Prop
  | nil : RepF C T ι [] []
  | cons {n : Nat} {x : Str} {w : W} {v : V} {l : List (Nat × W)} {r : List (Str × V)} : C.fl[n]? = some x → RepV C T ι w v → RepF C T ι l r → RepF C T ι ((n, w) :: l) ((x, v) :: r)
theorem RepF.monoT {C : Cn} {T T' : Addr → List V → Prop} {ι ι' : Im} (hT : TLe T T') (hι : Le ι ι') : ∀ {l : List (Nat × W)} {r : List (Str × V)}, RepF C T ι l r → RepF C T' ι' l r
  | _, _, .nil => .nil
  | _, _, .cons e a b => .cons e (a.monoT hT hι) (RepF.monoT hT hι b)
/-! ### objects -/
/-- what the object o is at a -/
def RepO (C : Cn) (T : Addr → List V → Prop) (ι : Im) (H : Hp) (a : Addr) : O → Prop
  | .lst ws => ∃ vs, H a = some (.lst vs) ∧ RepVs C T ι ws vs
  | .dict false kvs => ∃ ks : List (Key × V), H a = some (.dK ks) ∧ RepK C T ι (KR C) kvs ks
  | .dict true kvs => ∃ ks : List (List Key × V), H a = some (.dT ks) ∧ RepK C T ι (KRT C) kvs ks
  | .frd false kvs => ∃ (od : Obj) (ks : List (Key × V)), H a = some (.frz od (.dK ks)) ∧ RepK C T ι (KR C) kvs ks
  | .frd true kvs => ∃ (od : Obj) (ks : List (List Key × V)), H a = some (.frz od (.dT ks)) ∧ RepK C T ι (KRT C) kvs ks
  | .scr => a = C.scr
  | .row => ∃ i s t : Int, H a = some (.lst [.ref C.scr, .int i, .int s, .int t]) ∧ 0 ≤ i
  | .ins c fs' => ∃ dx fs x, C.cn[c]? = some x ∧ H a = some (.ins (C.cl c) dx fs) ∧ RepF C T ι fs' fs
abbrev TT' (_ : PySem.W.Frag) (H : Hp) : Addr → List V → Prop := fun a vs => H a = some (.tup vs)
/-- the script is read as it was -/
def ScrOk (K : PySem.W.Frag) (C : Cn) (H : Hp) : Prop := (∃ o, H C.scr = some (.frz o (.lst (C.ns.map V.int)))) ∨
  ∃ (o : Obj) (its : Array Value) (n : Nat), K.lookup C.scr = some o ∧ o.cls = .type "list" ∧ o.dict = none ∧ o.data = .seq its n ∧ its.size ≤ sizeLine ∧ Vals (C.ns.map V.int) its.toList
theorem ScrOk.sq {K : PySem.W.Frag} {C : Cn} {H : Hp} (h : ScrOk K C H) : SqL K H C.scr (C.ns.map V.int) := h.elim (fun ⟨o, q⟩ => .inl (.inr ⟨o, q⟩)) .inr
theorem ScrOk.upd {K : PySem.W.Frag} {C : Cn} {H : Hp} {a : Addr} {u : HO} (h : ScrOk K C H) (hz : ∀ o v, H a ≠ some (.frz o v)) : ScrOk K C (upd H a u) := by
  rcases h with ⟨o, q⟩ | q
  · exact .inl ⟨o, by rw [upd_ne (fun z => hz o _ (z ▸ q))]; exact q⟩
  · exact .inr q
structure SimH (K : PySem.W.Frag) (C : Cn) (ι : Im) (m : M) (H : Hp) : Prop where
  ob : ∀ n o, m.get n = some o → ∃ a, ι n = some a ∧ RepO C (TT' K H) ι H a o
  inj : ∀ n n' a, n ≠ [] → n' ≠ [] → ι n = some a → ι n' = some a → n = n'
  lt : ∀ n a, ι n = some a → val n < val m.next
  tr : ∀ n a, n ≠ [] → ι n = some a → ∃ u, H a = some u
  scr : ι [] = some C.scr
  so : ScrOk K C H
  root : m.get [] = some .scr
  tabs : LamX.Tabs C.tb H
/-- what may be written: no table, no code object, no frozen one -/
def Wr (o : Option HO) : Prop := (∃ vs, o = some (.lst vs)) ∨ (∃ ks, o = some (.dK ks)) ∨ (∃ ks, o = some (.dT ks)) ∨ ∃ D dx fs, o = some (.ins D dx fs)
theorem Wr.frz {H : Hp} {a : Addr} (h : Wr (H a)) : ∀ o v, H a ≠ some (.frz o v) := fun o v q => by
  rcases h with ⟨_, e⟩ | ⟨_, e⟩ | ⟨_, e⟩ | ⟨_, _, _, e⟩ <;> · rw [e] at q; cases q
theorem tabs_upd {T : List (Addr × Str)} {H : Hp} {a : Addr} {u : HO} (h : Wr (H a)) (t : LamX.Tabs T H) : LamX.Tabs T (upd H a u) := fun p hp => by
  obtain ⟨ps, h1, h2, h3⟩ := t p hp
  refine ⟨ps, by rw [upd_ne (fun z => by rcases h with ⟨_, e⟩ | ⟨_, e⟩ | ⟨_, e⟩ | ⟨_, _, _, e⟩ <;> · rw [← z, h1] at e; cases e)]; exact h1, h2, fun pos cv hc => ?_⟩
  obtain ⟨c, e1, e2⟩ := h3 pos cv hc
  exact ⟨c, e1, by rw [upd_ne (fun z => by rcases h with ⟨_, e⟩ | ⟨_, e⟩ | ⟨_, e⟩ | ⟨_, _, _, e⟩ <;> · rw [← z, e2] at e; cases e)]; exact e2⟩
theorem tabs_new {T : List (Addr × Str)} {H : Hp} {a : Addr} {u : HO} (h : H a = none) (t : LamX.Tabs T H) : LamX.Tabs T (upd H a u) := t.ext fun b o e => by rw [upd_ne (fun z => by rw [z, h] at e; cases e)]; exact e
theorem SimH.ne_root {K : PySem.W.Frag} {C : Cn} {ι : Im} {m : M} {H : Hp} (S : SimH K C ι m H) {n : Ad} {o : O} (e : m.get n = some o) (h : o ≠ .scr) : n ≠ [] := fun z => by
  subst z
  rw [S.root] at e
  exact h (Option.some.inj e).symm
theorem SimH.ne_nil {K : PySem.W.Frag} {C : Cn} {ι : Im} {m : M} {H : Hp} (S : SimH K C ι m H) : m.next ≠ [] := fun z => by
  have := S.lt [] _ S.scr
  rw [z] at this
  exact Nat.lt_irrefl _ this
/-- slots -/
def SimS (K : PySem.W.Frag) (C : Cn) (ι : Im) (H : Hp) (σ' : Sl) (σ : L2.St) : Prop := ∀ i w, nth σ' i = some (some w) → ∃ v, σ[i]? = some (some v) ∧ RepV C (TT' K H) ι w v
/-- tuples stay, and what is frozen -/
structure Tk (K : PySem.W.Frag) (H H' : Hp) : Prop where
  tup : TLe (TT' K H) (TT' K H')
  frz : ∀ a o u, H a = some (.frz o u) → H' a = some (.frz o u)
theorem Tk.refl (K : PySem.W.Frag) (H : Hp) : Tk K H H := ⟨fun _ _ h => h, fun _ _ _ h => h⟩
theorem Tk.trans {K : PySem.W.Frag} {H H1 H2 : Hp} (a : Tk K H H1) (b : Tk K H1 H2) : Tk K H H2 := ⟨fun p vs h => b.tup p vs (a.tup p vs h), fun p o u h => b.frz p o u (a.frz p o u h)⟩
/-- all that stood stands -/
theorem Tk.ext {K : PySem.W.Frag} {H H' : Hp} (g : ∀ b o, H b = some o → H' b = some o) : Tk K H H' := ⟨fun _ _ h => g _ _ h, fun _ _ _ h => g _ _ h⟩
section
variable {K : PySem.W.Frag} {C : Cn} {ι ι' : Im} {H H' : Hp}
theorem RepV.mono (t : Tk K H H') (l : Le ι ι') {w : W} {v : V} (r : RepV C (TT' K H) ι w v) : RepV C (TT' K H') ι' w v := r.monoT t.tup l
theorem RepVs.mono (t : Tk K H H') (l : Le ι ι') {ws : List W} {vs : List V} (r : RepVs C (TT' K H) ι ws vs) : RepVs C (TT' K H') ι' ws vs := r.monoT t.tup l
theorem RepK.mono (t : Tk K H H') (l : Le ι ι') {κ : Type} {R : W → κ → Prop} {ws : List (W × W)} {vs : List (κ × V)} (r : RepK C (TT' K H) ι R ws vs) : RepK C (TT' K H') ι' R ws vs := r.monoT t.tup l
theorem RepF.mono (t : Tk K H H') (l : Le ι ι') {ws : List (Nat × W)} {vs : List (Str × V)} (r : RepF C (TT' K H) ι ws vs) : RepF C (TT' K H') ι' ws vs := r.monoT t.tup l
end
section
variable {K : PySem.W.Frag} {C : Cn} {ι ι' : Im} {H H' : Hp} {σ' : Sl} {σ : L2.St} {m : M}
theorem SimS.mono (h : SimS K C ι H σ' σ) (t : Tk K H H') (l : Le ι ι') : SimS K C ι' H' σ' σ := fun i w e => by
  obtain ⟨v, h1, h2⟩ := h i w e
  exact ⟨v, h1, h2.mono t l⟩
theorem SimS.set {i : Nat} {w : W} {v : V} (h : SimS K C ι H σ' σ) (hi : i < σ.length) (r : RepV C (TT' K H) ι w v) : SimS K C ι H (setSl σ' i (some w)) (σ.set i (some v)) := fun j u e => by
  rw [nth_eq, setSl_eq] at e
  by_cases hj : j = i
  · subst hj
    by_cases hl : j < σ'.length
    · rw [List.getElem?_set_self hl] at e
      cases e
      exact ⟨v, List.getElem?_set_self hi, r⟩
    · rw [List.getElem?_eq_none (by simpa using hl)] at e; cases e
  · rw [List.getElem?_set_ne (Ne.symm hj)] at e
    obtain ⟨v', h1, h2⟩ := h j u (by rw [nth_eq]; exact e)
    exact ⟨v', by rw [List.getElem?_set_ne (Ne.symm hj)]; exact h1, h2⟩
/-- a slot forgotten -/
theorem SimS.unset {i : Nat} (h : SimS K C ι H σ' σ) : SimS K C ι H (setSl σ' i none) (σ.set i none) := fun j u e => by
  rw [nth_eq, setSl_eq] at e
  by_cases hj : j = i
  · subst hj
    by_cases hl : j < σ'.length
    · rw [List.getElem?_set_self hl] at e; cases e
    · rw [List.getElem?_eq_none (by simpa using hl)] at e; cases e
  · rw [List.getElem?_set_ne (Ne.symm hj)] at e
    obtain ⟨v', h1, h2⟩ := h j u (by rw [nth_eq]; exact e)
    exact ⟨v', by rw [List.getElem?_set_ne (Ne.symm hj)]; exact h1, h2⟩
theorem SimS.wipe : ∀ (l : List Nat), SimS K C ι H σ' σ → SimS K C ι H (wipeW σ' l) (wipe σ l)
  | [], h => h
  | v :: vs, h => by
    have q := SimS.wipe vs h
    unfold L2.wipe
    exact q.unset

/-- tuples stay where a tracked list, dict .. is written -/
theorem tk_upd {a : Addr} {o : HO} (h : ∀ vs, H a ≠ some (.tup vs)) (hf : ∀ o u, H a ≠ some (.frz o u)) : Tk K H (upd H a o) := ⟨fun p vs q => by
  have hp : p ≠ a := fun e => h vs (e ▸ q)
  show upd H a o p = _
  rw [upd_ne hp]
  exact q, fun p o' u q => by
  have hp : p ≠ a := fun e => hf o' u (by rw [← e]; exact q)
  rw [upd_ne hp]
  exact q⟩
theorem tk_new {a : Addr} {o : HO} (h : H a = none) : Tk K H (upd H a o) := tk_upd (fun vs q => by rw [h] at q; cases q) fun _ _ q => by rw [h] at q; cases q
theorem tk_lst {a : Addr} {o : HO} {vs : List V} (h : H a = some (.lst vs)) : Tk K H (upd H a o) := tk_upd (fun vs q => by rw [h] at q; cases q) fun _ _ q => by rw [h] at q; cases q
theorem tk_dK {a : Addr} {o : HO} {vs : List (Key × V)} (h : H a = some (.dK vs)) : Tk K H (upd H a o) := tk_upd (fun vs q => by rw [h] at q; cases q) fun _ _ q => by rw [h] at q; cases q
theorem tk_dT {a : Addr} {o : HO} {vs : List (List Key × V)} (h : H a = some (.dT vs)) : Tk K H (upd H a o) := tk_upd (fun vs q => by rw [h] at q; cases q) fun _ _ q => by rw [h] at q; cases q
theorem RepO.monoT {a : Addr} : ∀ {o : O}, TLe (TT' K H) (TT' K H') → Le ι ι' → H' a = H a → RepO C (TT' K H) ι H a o → RepO C (TT' K H') ι' H' a o
  | .lst ws, t, l, e, ⟨vs, h1, h2⟩ => ⟨vs, by rw [e]; exact h1, h2.monoT t l⟩
  | .scr, t, l, e, h => h
  | .row, t, l, e, ⟨i, s, u, h1, h2⟩ => ⟨i, s, u, by rw [e]; exact h1, h2⟩
  | .dict false _, t, l, e, ⟨ks, h1, h2⟩ => ⟨ks, by rw [e]; exact h1, h2.monoT t l⟩
  | .dict true _, t, l, e, ⟨ks, h1, h2⟩ => ⟨ks, by rw [e]; exact h1, h2.monoT t l⟩
  | .frd false _, t, l, e, ⟨od, ks, h1, h2⟩ => ⟨od, ks, by rw [e]; exact h1, h2.monoT t l⟩
  | .frd true _, t, l, e, ⟨od, ks, h1, h2⟩ => ⟨od, ks, by rw [e]; exact h1, h2.monoT t l⟩
  | .ins _ _, t, l, e, ⟨dx, fs, x, h0, h1, h2⟩ => ⟨dx, fs, x, h0, by rw [e]; exact h1, h2.monoT t l⟩
theorem RepO.monoT' {a : Addr} {o : O} (t : TLe (TT' K H) (TT' K H')) (l : Le ι ι') (e : o ≠ .scr → H' a = H a) (h : RepO C (TT' K H) ι H a o) : RepO C (TT' K H') ι' H' a o := by
  cases o with
  | scr => exact h
  | _ => exact h.monoT t l (e (by intro z; cases z))
theorem RepO.mono' {a : Addr} {o : O} (t : Tk K H H') (l : Le ι ι') (e : o ≠ .scr → H' a = H a) (h : RepO C (TT' K H) ι H a o) : RepO C (TT' K H') ι' H' a o := h.monoT' t.tup l e
/-- an object is written -/
theorem SimH.put {n : Ad} {a : Addr} {o : O} {u : HO} (S : SimH K C ι m H) (hn : ι n = some a) (hs : n ≠ []) (hw : Wr (H a)) (t : Tk K H (upd H a u)) (r : RepO C (TT' K (upd H a u)) ι (upd H a u) a o) : SimH K C ι (m.put n o) (upd H a u) := by
  have hne : ∀ n' a', n' ≠ [] → n' ≠ n → ι n' = some a' → a' ≠ a := fun n' a' h0 hne e z => hne (S.inj _ _ _ h0 hs (z ▸ e) hn)
  refine ⟨fun n' o' e => ?_, S.inj, fun n' a' e => by rw [M.next_put]; exact S.lt n' a' e, fun n' a' h0 e => ?_, S.scr, S.so.upd hw.frz, by rw [M.get_put_ne _ _ _ _ (Ne.symm hs)]; exact S.root, tabs_upd hw S.tabs⟩
  · by_cases hh : n' = n
    · subst hh
      rw [M.get_put_same] at e
      cases e
      exact ⟨a, hn, r⟩
    · rw [M.get_put_ne _ _ _ _ hh] at e
      obtain ⟨a', e1, e2⟩ := S.ob n' o' e
      exact ⟨a', e1, e2.mono' t (Le.refl ι) fun ho => upd_ne (hne n' a' (S.ne_root e ho) hh e1)⟩
  · by_cases hh : a' = a
    · rw [hh]; exact ⟨u, upd_same⟩
    · rw [upd_ne hh]; exact S.tr n' a' h0 e
/-- a locked dict is let go -/
theorem SimH.unlock {n : Ad} {a : Addr} {o1 : O} {od : Obj} {u : HO} (S : SimH K C ι m H) (hn : ι n = some a) (hs : n ≠ []) (hw : H a = some (.frz od u)) (hd : (∃ ks, u = .dK ks) ∨ ∃ ks, u = .dT ks) (r : TLe (TT' K H) (TT' K (upd H a u)) → RepO C (TT' K (upd H a u)) ι (upd H a u) a o1) : SimH K C ι (m.put n o1) (upd H a u) := by
  have t : TLe (TT' K H) (TT' K (upd H a u)) := fun p vs q => by
    have q : H p = some (.tup vs) := q
    have hp : p ≠ a := fun e => by rw [e, hw] at q; cases q
    show upd H a _ p = _
    rw [upd_ne hp]; exact q
  have hne : ∀ n' a', n' ≠ [] → n' ≠ n → ι n' = some a' → a' ≠ a := fun n' a' h0 hne e z => hne (S.inj _ _ _ h0 hs (z ▸ e) hn)
  refine ⟨fun n' o' e => ?_, S.inj, fun n' a' e => by rw [M.next_put]; exact S.lt n' a' e, fun n' a' h0 e => ?_, S.scr, ?_, by rw [M.get_put_ne _ _ _ _ (Ne.symm hs)]; exact S.root, fun p hp => ?_⟩
  · by_cases hh : n' = n
    · subst hh
      rw [M.get_put_same] at e
      cases e
      exact ⟨a, hn, r t⟩
    · rw [M.get_put_ne _ _ _ _ hh] at e
      obtain ⟨a', e1, e2⟩ := S.ob n' o' e
      exact ⟨a', e1, e2.monoT' t (Le.refl ι) fun ho => upd_ne (hne n' a' (S.ne_root e ho) hh e1)⟩
  · by_cases hh : a' = a
    · rw [hh]; exact ⟨_, upd_same⟩
    · rw [upd_ne hh]; exact S.tr n' a' h0 e
  · rcases S.so with ⟨o, q⟩ | q
    · exact .inl ⟨o, by rw [upd_ne (fun z => by rw [z, hw] at q; rcases hd with ⟨_, hd⟩ | ⟨_, hd⟩ <;> (rw [hd] at q; cases q))]; exact q⟩
    · exact .inr q
  · obtain ⟨ps, h1, h2, h3⟩ := S.tabs p hp
    refine ⟨ps, by rw [upd_ne (fun z => by rw [z, hw] at h1; cases h1)]; exact h1, h2, fun pos cv hc => ?_⟩
    obtain ⟨c, e1, e2⟩ := h3 pos cv hc
    exact ⟨c, e1, by rw [upd_ne (fun z => by rw [z, hw] at e2; cases e2)]; exact e2⟩
def ext (ι : Im) (n : Ad) (a : Addr) : Im := fun q => if q = n then some a else ι q
theorem ext_same {n : Ad} {a : Addr} : ext ι n a n = some a := by unfold ext; rw [if_pos rfl]
theorem ext_le {n : Ad} {a : Addr} (h : ι n = none) : Le ι (ext ι n a) := fun q b e => by
  unfold ext
  by_cases hq : q = n
  · subst hq; rw [h] at e; cases e
  · rw [if_neg hq]; exact e
theorem SimH.none_next (S : SimH K C ι m H) : ι m.next = none := by
  cases e : ι m.next with
  | none => rfl
  | some a => exact absurd (S.lt _ _ e) (Nat.lt_irrefl _)
theorem SimH.ne_next {n : Ad} {o : O} (S : SimH K C ι m H) (e : m.get n = some o) : n ≠ m.next := fun z => by
  obtain ⟨a, e1, _⟩ := S.ob n o e
  rw [z, S.none_next] at e1; cases e1
/-- a new object -/
theorem SimH.new {p : Addr} {o : O} {u : HO} (S : SimH K C ι m H) (hp : H p = none) (r : RepO C (TT' K (upd H p u)) (ext ι m.next p) (upd H p u) p o) : SimH K C (ext ι m.next p) (m.new o) (upd H p u) := by
  have l : Le ι (ext ι m.next p) := ext_le S.none_next
  have hfree : ∀ n a, n ≠ [] → ι n = some a → a ≠ p := fun n a h0 e z => by
    obtain ⟨w, hw⟩ := S.tr n a h0 e
    rw [z, hp] at hw; cases hw
  have key : ∀ n a, ext ι m.next p n = some a → (n = m.next ∧ a = p) ∨ (n ≠ m.next ∧ ι n = some a) := fun n a e => by
    unfold ext at e
    by_cases hn : n = m.next
    · rw [if_pos hn] at e; cases e; exact .inl ⟨hn, rfl⟩
    · rw [if_neg hn] at e; exact .inr ⟨hn, e⟩
  refine ⟨fun n' o' e => ?_, fun n n' a z z' e e' => ?_, fun n a e => ?_, fun n a z e => ?_, l _ _ S.scr, S.so.upd (fun o v q => by rw [hp] at q; cases q), by rw [M.get_new_ne _ _ _ (Ne.symm S.ne_nil)]; exact S.root, tabs_new hp S.tabs⟩
  · by_cases hh : n' = m.next
    · subst hh
      rw [M.get_new_same] at e
      cases e
      exact ⟨p, ext_same, r⟩
    · rw [M.get_new_ne _ _ _ hh] at e
      obtain ⟨a', e1, e2⟩ := S.ob n' o' e
      exact ⟨a', l _ _ e1, e2.mono' (tk_new hp) l fun ho => upd_ne (hfree n' a' (S.ne_root e ho) e1)⟩
  · rcases key n a e with ⟨h1, h2⟩ | ⟨h1, h2⟩ <;> rcases key n' a e' with ⟨h3, h4⟩ | ⟨h3, h4⟩
    · rw [h1, h3]
    · exact absurd h2 (hfree _ _ z' h4)
    · exact absurd h4 (hfree _ _ z h2)
    · exact S.inj _ _ _ z z' h2 h4
  · rw [M.next_new, val_inc]
    rcases key n a e with ⟨h1, h2⟩ | ⟨h1, h2⟩
    · rw [h1]; omega
    · have := S.lt _ _ h2; omega
  · rcases key n a e with ⟨h1, h2⟩ | ⟨h1, h2⟩
    · rw [h2]; exact ⟨u, upd_same⟩
    · rw [upd_ne (hfree _ _ z h2)]; exact S.tr _ _ z h2
/-- a new object of another kind, tracked -/
theorem simH_add (S : SimH K C ι m H) {p : Addr} {u : HO} (hp : H p = none) : SimH K C ι m (upd H p u) :=
  ⟨fun n o e => by
      obtain ⟨a, e1, e2⟩ := S.ob n o e
      exact ⟨a, e1, e2.mono' (tk_new hp) (Le.refl ι) fun ho => upd_ne (fun z => by
        obtain ⟨u, hu⟩ := S.tr n a (S.ne_root e ho) e1
        rw [z, hp] at hu; cases hu)⟩, S.inj, S.lt, fun n a h0 e => by
      obtain ⟨u, hu⟩ := S.tr n a h0 e
      exact ⟨u, by rw [upd_ne (fun z => by rw [z, hp] at hu; cases hu)]; exact hu⟩, S.scr, S.so.upd (fun o v q => by rw [hp] at q; cases q), S.root, tabs_new hp S.tabs⟩
theorem simH_tup (S : SimH K C ι m H) {p : Addr} {vs : List V} (hp : H p = none) : SimH K C ι m (upd H p (.tup vs)) := simH_add S hp
end

/-! ### ends -/
/-- what a result of the evaluator must lead to -/
def PostE {α : Type} (ok : α → M → Prop) (r : RE α) : Prop :=
  RE.rec (motive := fun _ => Prop) (fun a m => ok a m) (fun _ _ => False) (fun _ => False) (fun n _ p => ∀ d : Nat, d < n → p (.int (Int.ofNat d))) r
theorem PostE.mono {α : Type} {f g : α → M → Prop} (h : ∀ a m, f a m → g a m) : ∀ {r : RE α}, PostE f r → PostE g r := fun {r} => by
  induction r with
  | ok a m => exact h a m
  | exc x m => exact id
  | er e => exact id
  | draw n k ih => exact fun p d hd => ih _ (p d hd)
theorem PostE.bind {α β : Type} {f : β → M → Prop} {k : α → M → RE β} : ∀ {r : RE α}, PostE f (REbind r k) → PostE (fun a m => PostE f (k a m)) r := fun {r} => by
  induction r with
  | ok a m => exact id
  | exc x m => exact id
  | er e => exact id
  | draw n k ih => exact fun p d hd => ih _ (p d hd)
theorem PostE.lift {α β : Type} {f : β → M → Prop} {k : α → RE β} : ∀ {r : Except Er α}, PostE f (lift r k) → ∃ a, r = .ok a ∧ PostE f (k a)
  | .ok a, h => ⟨a, rfl, h⟩
  | .error _, h => h.elim
theorem PostE.liftO {α β : Type} {f : β → M → Prop} {c : Nat} {k : α → RE β} : ∀ {r : Option α}, PostE f (liftO c r k) → ∃ a, r = some a ∧ PostE f (k a)
  | some a, h => ⟨a, rfl, h⟩
  | none, h => h.elim
theorem PostE.noExc {α : Type} {f : α → M → Prop} : ∀ {r : RE α}, PostE f (noExc r) → PostE f r := fun {r} => by
  induction r with
  | ok a m => exact id
  | exc x m => exact id
  | er e => exact id
  | draw n k ih => exact fun p d hd => ih _ (p d hd)
/-- the end of a value -/
def QV (K : PySem.W.Frag) (C : Cn) (ι : Im) (H : Hp) (Q : VK) : W → M → Prop := fun w m => ∀ ι' H' v, SimH K C ι' m H' → Le ι ι' → Tk K H H' → RepV C (TT' K H') ι' w v → Q v H'
def QVs (K : PySem.W.Frag) (C : Cn) (ι : Im) (H : Hp) (Q : List V → Hp → Prop) : List W → M → Prop := fun ws m => ∀ ι' H' vs, SimH K C ι' m H' → Le ι ι' → Tk K H H' → RepVs C (TT' K H') ι' ws vs → Q vs H'
/-- .. or an exception -/
def PostX (ok : W → M → Prop) (ex : Xc → M → Prop) (r : RE W) : Prop :=
  RE.rec (motive := fun _ => Prop) (fun a m => ok a m) (fun x m => ex x m) (fun _ => False) (fun n _ p => ∀ d : Nat, d < n → p (.int (Int.ofNat d))) r
theorem PostX.mono {f g : W → M → Prop} {f' g' : Xc → M → Prop} (h : ∀ a m, f a m → g a m) (h' : ∀ x m, f' x m → g' x m) : ∀ {r : RE W}, PostX f f' r → PostX g g' r := fun {r} => by
  induction r with
  | ok a m => exact h a m
  | exc x m => exact h' x m
  | er e => exact id
  | draw n k ih => exact fun p d hd => ih _ (p d hd)
theorem PostE.toX {f : W → M → Prop} {f' : Xc → M → Prop} : ∀ {r : RE W}, PostE f r → PostX f f' r := fun {r} => by
  induction r with
  | ok a m => exact id
  | exc x m => exact fun p => p.elim
  | er e => exact id
  | draw n k ih => exact fun p d hd => ih _ (p d hd)
theorem PostX.bindN {α : Type} {f : W → M → Prop} {f' : Xc → M → Prop} {k : α → M → RE W} : ∀ {r : RE α}, PostX f f' (REbind (noExc r) k) → PostE (fun a m => PostX f f' (k a m)) r := fun {r} => by
  induction r with
  | ok a m => exact id
  | exc x m => exact id
  | er e => exact id
  | draw n k ih => exact fun p d hd => ih _ (p d hd)
/-- an exception: its field, in its dict -/
def XRep (K : PySem.W.Frag) (C : Cn) (ι : Im) (H : Hp) (x : Xc) (d : Option Addr) : Prop := match x.args with
  | [] => C.ef x.cls = none ∧ d = none
  | [w] => ∃ f dd v, C.ef x.cls = some f ∧ d = some dd ∧ H dd = some (.xd [(f, v)]) ∧ RepV C (TT' K H) ι w v
  | _ => False
def QX (K : PySem.W.Frag) (C : Cn) (ι : Im) (H : Hp) (E : XK) : Xc → M → Prop := fun x m => ∀ ι' H' d, SimH K C ι' m H' → Le ι ι' → Tk K H H' → XRep K C ι' H' x d → E (.ref (C.ec x.cls)) d H'
theorem QX.base {K : PySem.W.Frag} {C : Cn} {ι ι1 : Im} {H H1 : Hp} {E : XK} {x : Xc} {m : M} (l : Le ι ι1) (t : Tk K H H1) (h : QX K C ι H E x m) : QX K C ι1 H1 E x m := fun ι' H' d s l' t' r => h ι' H' d s (l.trans l') (t.trans t') r
/-- an expression's reading by an evaluation -/
def tG (K : PySem.W.Frag) (C : Cn) (g : Sl → M → RE W) : TE := fun σ H Q => ∃ ι σ' m, SimS K C ι H σ' σ ∧ SimH K C ι m H ∧ PostE (QV K C ι H Q) (g σ' m)
def tGs (K : PySem.W.Frag) (C : Cn) (g : Sl → M → RE (List W)) : TA := fun σ H Q => ∃ ι σ' m, SimS K C ι H σ' σ ∧ SimH K C ι m H ∧ PostE (QVs K C ι H Q) (g σ' m)
theorem QV.base {K : PySem.W.Frag} {C : Cn} {ι ι1 : Im} {H H1 : Hp} {Q : VK} {w : W} {m : M} (l : Le ι ι1) (t : Tk K H H1) (h : QV K C ι H Q w m) : QV K C ι1 H1 Q w m := fun ι' H' v s l' t' r => h ι' H' v s (l.trans l') (t.trans t') r
theorem QVs.base {K : PySem.W.Frag} {C : Cn} {ι ι1 : Im} {H H1 : Hp} {Q : List V → Hp → Prop} {w : List W} {m : M} (l : Le ι ι1) (t : Tk K H H1) (h : QVs K C ι H Q w m) : QVs K C ι1 H1 Q w m := fun ι' H' v s l' t' r => h ι' H' v s (l.trans l') (t.trans t') r
/-- first a, then k: what a's reading is wanted for -/
theorem tG_bind {K : PySem.W.Frag} {C : Cn} {ι : Im} {σ' : Sl} {σ : L2.St} {m : M} {H : Hp} {α : Type} {g : Sl → M → RE W} {k : W → M → RE α} {f : α → M → Prop} {Q : VK} (s : SimS K C ι H σ' σ) (S : SimH K C ι m H)
    (h : PostE f (REbind (g σ' m) k))
    (hQ : ∀ ι1 H1 w v m1, Le ι ι1 → Tk K H H1 → SimS K C ι1 H1 σ' σ → SimH K C ι1 m1 H1 → RepV C (TT' K H1) ι1 w v → PostE f (k w m1) → Q v H1) : tG K C g σ H Q :=
  ⟨ι, σ', m, s, S, PostE.mono (fun w m1 p ι1 H1 v S1 l t r => hQ ι1 H1 w v m1 l t (s.mono t l) S1 r p) (PostE.bind h)⟩
theorem tGs_bind {K : PySem.W.Frag} {C : Cn} {ι : Im} {σ' : Sl} {σ : L2.St} {m : M} {H : Hp} {α : Type} {g : Sl → M → RE (List W)} {k : List W → M → RE α} {f : α → M → Prop} {Q : List V → Hp → Prop} (s : SimS K C ι H σ' σ) (S : SimH K C ι m H)
    (h : PostE f (REbind (g σ' m) k))
    (hQ : ∀ ι1 H1 ws vs m1, Le ι ι1 → Tk K H H1 → SimS K C ι1 H1 σ' σ → SimH K C ι1 m1 H1 → RepVs C (TT' K H1) ι1 ws vs → PostE f (k ws m1) → Q vs H1) : tGs K C g σ H Q :=
  ⟨ι, σ', m, s, S, PostE.mono (fun w m1 p ι1 H1 v S1 l t r => hQ ι1 H1 w v m1 l t (s.mono t l) S1 r p) (PostE.bind h)⟩
end Jw

/-! The evaluator's expressions keep what the program's do: one lemma a construct. -/
namespace Jw
open PySem PySem.Spec PyProof.Rows L2

section
variable {X : Cx} {C : Cn} {K : PySem.W.Frag} {ι : Im} {H : Hp} {m : M} {Q : VK}
theorem size_of {n : Nat} (h : Nat.ble n 100000 = true) : n ≤ sizeLine := Nat.le_trans (Nat.le_of_ble_eq_true h) (by decide)
theorem size_lt {n : Nat} (h : Nat.ble n 100000 = true) : n < sizeLine := Nat.lt_of_le_of_lt (Nat.le_of_ble_eq_true h) (by decide)
theorem PostE.ifB {α : Type} {f : α → M → Prop} {b : Bool} {x y : RE α} (h : PostE f (ifB b x y)) : (b = true ∧ PostE f x) ∨ (b = false ∧ PostE f y) := by
  cases b
  · exact .inr ⟨rfl, h⟩
  · exact .inl ⟨rfl, h⟩
theorem PostE.okL {α β : Type} {f : β → M → Prop} {xs : List α} {r : RE β} (h : PostE f (okL xs r)) : Nat.ble xs.length 100000 = true ∧ PostE f r := by
  rcases PostE.ifB h with h | h
  · exact h
  · exact h.2.elim
theorem PostE.ifF {α : Type} {f : α → M → Prop} {b : Bool} {x : RE α} {c : Nat} (h : PostE f (Jw.ifB b x (.er (.stuck c)))) : b = true ∧ PostE f x := by
  rcases PostE.ifB h with h | h
  · exact h
  · exact h.2.elim
theorem getL_inv {a : W} {k : Ad → List W → RE W} {f : W → M → Prop} (p : PostE f (getL m a k)) : ∃ n xs, a = .ref n ∧ m.get n = some (.lst xs) ∧ PostE f (k n xs) := by
  unfold getL at p
  split at p
  · split at p
    · rename_i e
      exact ⟨_, _, rfl, e, p⟩
    · exact p.elim
  · exact p.elim
/-- a new list -/
theorem post_newL {ws : List W} {vs : List V} (S : SimH K C ι m H) (r : RepVs C (TT' K H) ι ws vs) (h : PostE (QV K C ι H Q) (newL ws m)) : vs.length ≤ sizeLine ∧ ∀ p, H p = none → Q (.ref p) (upd H p (.lst vs)) := by
  obtain ⟨h1, h⟩ := PostE.okL h
  refine ⟨by rw [← r.length]; exact size_of h1, fun p hp => ?_⟩
  have l : Le ι (ext ι m.next p) := ext_le S.none_next
  exact h _ _ _ (S.new (o := .lst ws) (u := .lst vs) hp ⟨vs, upd_same, r.mono (tk_new hp) l⟩) l (tk_new hp) (.ref ext_same)
/-- a new tuple -/
theorem post_newT {ws : List W} {vs : List V} (S : SimH K C ι m H) (r : RepVs C (TT' K H) ι ws vs) (h : PostE (QV K C ι H Q) (newT ws m)) : vs.length ≤ sizeLine ∧ (∀ a, H a = some (.tup vs) → Q (.ref a) H) ∧ ∀ p, H p = none → Q (.ref p) (upd H p (.tup vs)) := by
  obtain ⟨h1, h⟩ := PostE.okL h
  refine ⟨by rw [← r.length]; exact size_of h1, fun a ha => h ι H _ S (Le.refl ι) (Tk.refl K H) (.tup ha r), fun p hp => ?_⟩
  have S' : SimH K C ι m (upd H p (.tup vs)) := simH_tup S hp
  exact h ι _ _ S' (Le.refl ι) (tk_new hp) (.tup upd_same (r.mono (tk_new hp) (Le.refl ι)))
/-- no change -/
theorem post_ok {w : W} {v : V} (S : SimH K C ι m H) (r : RepV C (TT' K H) ι w v) (h : PostE (QV K C ι H Q) (.ok w m)) : Q v H := h ι H v S (Le.refl ι) (Tk.refl K H) r

/-! ### the readings of operators by values -/
def rG (K : PySem.W.Frag) (C : Cn) (g : W → W → M → RE W) : R2 := fun x y H Q => ∃ ι m w u, SimH K C ι m H ∧ RepV C (TT' K H) ι w x ∧ RepV C (TT' K H) ι u y ∧ PostE (QV K C ι H Q) (g w u m)
theorem tG_op {ga gb : Sl → M → RE W} {g : W → W → M → RE W} {σ : L2.St} (h : tG K C (fun σ m => REbind (ga σ m) fun x m1 => REbind (gb σ m1) fun y m2 => g x y m2) σ H Q) : tOp (rG K C g) (tG K C ga) (tG K C gb) σ H Q := by
  obtain ⟨ι, σ', m, s, S, p⟩ := h
  refine tG_bind s S p fun ι1 H1 w v m1 l1 t1 s1 S1 r1 p1 => ?_
  refine tG_bind s1 S1 p1 fun ι2 H2 u y m2 l2 t2 s2 S2 r2 p2 => ?_
  exact ⟨ι2, m2, w, u, S2, r1.mono t2 l2, r2, PostE.mono (fun a m => QV.base (l1.trans l2) (t1.trans t2)) p2⟩
/-- one operand -/
def rG1 (K : PySem.W.Frag) (C : Cn) (g : W → M → RE W) : V → Hp → VK → Prop := fun x H Q => ∃ ι m w, SimH K C ι m H ∧ RepV C (TT' K H) ι w x ∧ PostE (QV K C ι H Q) (g w m)
theorem tG_un {ga : Sl → M → RE W} {g : W → M → RE W} {σ : L2.St} (h : tG K C (fun σ m => REbind (ga σ m) fun x m1 => g x m1) σ H Q) : tUn (rG1 K C g) (tG K C ga) σ H Q := by
  obtain ⟨ι, σ', m, s, S, p⟩ := h
  refine tG_bind s S p fun ι1 H1 w v m1 l1 t1 s1 S1 r1 p1 => ?_
  exact ⟨ι1, m1, w, S1, r1, PostE.mono (fun a m => QV.base l1 t1) p1⟩

/-! ### numbers -/
theorem RepV.int_inv {T : Addr → List V → Prop} {i : Int} {v : V} (r : RepV C T ι (.int i) v) : v = .int i := by cases r; rfl
theorem RepV.aff_inv {T : Addr → List V → Prop} {c k : Int} {v : V} (r : RepV C T ι (.aff c k) v) : v = .int (c + k * C.x) := by cases r; rfl
theorem ieq_iff : ∀ x y : Int, ieq x y = decide (x = y) := by
  intro x y
  cases x with
  | ofNat a =>
    cases y with
    | ofNat b =>
      show Nat.beq a b = _
      by_cases h : a = b
      · subst h; rw [Nat.beq_refl]; simp
      · have : Nat.beq a b = false := by
          cases e : Nat.beq a b
          · rfl
          · exact absurd (Nat.eq_of_beq_eq_true e) h
        rw [this]
        exact (decide_eq_false (fun q => h (Int.ofNat.inj q))).symm
    | negSucc b => exact (decide_eq_false (fun q => nomatch q)).symm
  | negSucc a =>
    cases y with
    | ofNat b => exact (decide_eq_false (fun q => nomatch q)).symm
    | negSucc b =>
      show Nat.beq a b = _
      by_cases h : a = b
      · subst h; rw [Nat.beq_refl]; simp
      · have : Nat.beq a b = false := by
          cases e : Nat.beq a b
          · rfl
          · exact absurd (Nat.eq_of_beq_eq_true e) h
        rw [this]
        exact (decide_eq_false (fun q => h (Int.negSucc.inj q))).symm
theorem ilt_iff : ∀ x y : Int, ilt x y = decide (x < y) := by
  intro x y
  cases x with
  | ofNat a =>
    cases y with
    | ofNat b =>
      show Nat.blt a b = _
      have e : Nat.blt a b = decide (a < b) := by
        cases h : Nat.blt a b
        · exact (decide_eq_false (fun q => by rw [Nat.blt_eq.mpr q] at h; cases h)).symm
        · exact (decide_eq_true (Nat.blt_eq.mp h)).symm
      rw [e]
      exact decide_eq_decide.mpr ⟨fun h => Int.ofNat_lt.mpr h, fun h => Int.ofNat_lt.mp h⟩
    | negSucc b => exact (decide_eq_false (fun q => by have := Int.negSucc_lt_zero b; have h2 : (0 : Int) ≤ Int.ofNat a := Int.natCast_nonneg a; omega)).symm
  | negSucc a =>
    cases y with
    | ofNat b => exact (decide_eq_true (by have := Int.negSucc_lt_zero a; have h2 : (0 : Int) ≤ Int.ofNat b := Int.natCast_nonneg b; omega)).symm
    | negSucc b =>
      show Nat.blt b a = _
      have e : Nat.blt b a = decide (b < a) := by
        cases h : Nat.blt b a
        · exact (decide_eq_false (fun q => by rw [Nat.blt_eq.mpr q] at h; cases h)).symm
        · exact (decide_eq_true (Nat.blt_eq.mp h)).symm
      rw [e]
      exact decide_eq_decide.mpr ⟨fun h => by rw [Int.negSucc_eq, Int.negSucc_eq]; omega, fun h => by rw [Int.negSucc_eq, Int.negSucc_eq] at h; omega⟩
theorem rep_mk {T : Addr → List V → Prop} (c k : Int) {i : Int} (h : i = c + k * C.x) : RepV C T ι (mk c k) (.int i) := by
  subst h
  unfold mk
  cases e : ieq k 0 with
  | false => exact .aff c k
  | true =>
    rw [ieq_iff] at e
    have e' : k = 0 := of_decide_eq_true e
    subst e'
    have : c + 0 * C.x = c := by rw [Int.zero_mul, Int.add_zero]
    rw [this]
    exact .int c
/-- the number that a value is -/
def numV (x : Int) : W → Option Int
  | .int i => some i
  | .aff c k => some (c + k * x)
  | _ => none
theorem RepV.num {T : Addr → List V → Prop} {w : W} {v : V} {i : Int} (r : RepV C T ι w v) (h : numV C.x w = some i) : v = .int i := by
  cases r <;> simp only [numV, Option.some.injEq, reduceCtorEq] at h
  · rw [h]
  · rw [h]
theorem addN_ok {a b w : W} (h : addN a b = .ok w) : ∃ i j, numV C.x a = some i ∧ numV C.x b = some j ∧ ∀ T : Addr → List V → Prop, ∀ ι, RepV C T ι w (.int (i + j)) := by
  cases a <;> cases b <;> simp only [addN, Except.ok.injEq, reduceCtorEq] at h <;> subst h
  · exact ⟨_, _, rfl, rfl, fun T ι => .int _⟩
  · exact ⟨_, _, rfl, rfl, fun T ι => rep_mk _ _ (by omega)⟩
  · exact ⟨_, _, rfl, rfl, fun T ι => rep_mk _ _ (by omega)⟩
  · exact ⟨_, _, rfl, rfl, fun T ι => rep_mk _ _ (by rw [Int.add_mul]; omega)⟩
theorem subN_ok {a b w : W} (h : subN a b = .ok w) : ∃ i j, numV C.x a = some i ∧ numV C.x b = some j ∧ ∀ T : Addr → List V → Prop, ∀ ι, RepV C T ι w (.int (i - j)) := by
  cases a <;> cases b <;> simp only [subN, Except.ok.injEq, reduceCtorEq] at h <;> subst h
  · exact ⟨_, _, rfl, rfl, fun T ι => .int _⟩
  · exact ⟨_, _, rfl, rfl, fun T ι => rep_mk _ _ (by rw [Int.sub_mul]; omega)⟩
  · exact ⟨_, _, rfl, rfl, fun T ι => rep_mk _ _ (by omega)⟩
  · exact ⟨_, _, rfl, rfl, fun T ι => rep_mk _ _ (by rw [Int.sub_mul]; omega)⟩
theorem small_ok {i : Int} (h : small i = true) : -(2 ^ 63) ≤ i ∧ i < 2 ^ 63 ∧ i.natAbs < 1000000000 := by
  have h1 : i.natAbs < 1000000000 := Nat.blt_eq.mp h
  omega

/-! ### the binary operators -/
theorem oAdd_ok {Γ : Pg} : OpR X (binaryOp .Add) (rG X.K C (oAdd Γ)) := by
  intro pins s σ H x y v u Q I rx ry ⟨ι, m, w1, w2, S, r1, r2, p⟩
  have num : PostE (QV X.K C ι H Q) (liftW (addN w1 w2) m) → wpAny (model X.prog X.w) X.A (binaryOp .Add v u) (EP X pins σ Q) X.xe s := fun p => by
    obtain ⟨w, e, p⟩ := PostE.lift p
    obtain ⟨i, j, e1, e2, r⟩ := addN_ok (C := C) e
    obtain rfl := r1.num e1
    obtain rfl := r2.num e2
    exact op_add pins s σ H _ _ v u Q I rx ry ⟨i, j, rfl, rfl, post_ok S (r _ _) p⟩
  cases r1 with
  | tup h1 q1 =>
    cases r2 with
    | tup h2 q2 =>
      have q := post_newT S (q1.append q2) p
      refine op_catA pins s σ H _ _ v u Q I rx ry ⟨_, _, _, _, rfl, rfl, SqT.of h1, SqT.of h2, by rw [← List.length_append]; exact q.1, fun e => ?_, fun _ e => ?_, fun _ _ => q.2.2⟩
      · subst e; exact q.2.1 _ h2
      · subst e; exact q.2.1 _ (by rw [List.append_nil]; exact h1)
    | _ => exact p.elim
  | ref h1 =>
    rename_i n0 a0
    have p : PostE (QV X.K C ι H Q) (getL m (.ref n0) fun _ xs => getL m w2 fun _ ys => newL (xs ++ ys) m) := p
    obtain ⟨n, xs, z1, e1, p1⟩ := getL_inv p
    obtain ⟨n', ys, z2, e2, p2⟩ := getL_inv p1
    cases z1
    subst z2
    clear p p1
    cases r2 with
    | ref h2 =>
      obtain ⟨b1, f1, vs1, g1, q1⟩ := S.ob _ _ e1
      obtain ⟨b2, f2, vs2, g2, q2⟩ := S.ob _ _ e2
      rw [h1] at f1; cases f1
      rw [h2] at f2; cases f2
      have q := post_newL S (q1.append q2) p2
      exact op_cat pins s σ H _ _ v u Q I rx ry ⟨_, _, _, _, rfl, rfl, g1, g2, by rw [← List.length_append]; exact q.1, q.2⟩
  | int i => exact num p
  | aff c k => exact num p
  | _ => exact p.elim
theorem oSub_ok {Γ : Pg} : OpR X (binaryOp .Sub) (rG X.K C (oSub Γ)) := by
  intro pins s σ H x y v u Q I rx ry ⟨ι, m, w1, w2, S, r1, r2, p⟩
  obtain ⟨w, e, p⟩ := PostE.lift p
  obtain ⟨i, j, e1, e2, r⟩ := subN_ok (C := C) e
  obtain rfl := r1.num e1
  obtain rfl := r2.num e2
  exact op_sub pins s σ H _ _ v u Q I rx ry ⟨i, j, rfl, rfl, post_ok S (r _ _) p⟩
theorem mul_len {n : Nat} {xs : List V} : ((List.replicate n xs).flatten).length = xs.length * n := by
  induction n with
  | zero => simp
  | succ n ih => rw [List.replicate_succ, List.flatten_cons, List.length_append, ih, Nat.mul_succ, Nat.add_comm]
theorem RepVs.rep {T : Addr → List V → Prop} {ws : List W} {vs : List V} (r : RepVs C T ι ws vs) : ∀ n, RepVs C T ι (List.replicate n ws).flatten (List.replicate n vs).flatten
  | 0 => .nil
  | n + 1 => by
    rw [List.replicate_succ, List.replicate_succ, List.flatten_cons, List.flatten_cons]
    exact r.append (RepVs.rep r n)
theorem cmul_r {i j : Int} (h : j.natAbs < 1000000000) : CMul i j := .inr ⟨by omega, by omega⟩
theorem cmul_l {i j : Int} (h : i.natAbs < 1000000000) : CMul i j := .inl ⟨by omega, by omega⟩
theorem oMul_ok {Γ : Pg} : OpR X (binaryOp .Mult) (rG X.K C (oMul Γ)) := by
  intro pins s σ H x y v u Q I rx ry ⟨ι, m, w1, w2, S, r1, r2, p⟩
  cases r2 with
  | int j =>
    obtain ⟨hs, p⟩ := PostE.ifF p
    obtain ⟨k1, k2, k3⟩ := small_ok hs
    cases r1 with
    | int i => exact op_mul pins s σ H _ _ v u Q I rx ry ⟨i, j, rfl, rfl, cmul_r k3, post_ok S (.int _) p⟩
    | aff c k => exact op_mul pins s σ H _ _ v u Q I rx ry ⟨_, j, rfl, rfl, cmul_r k3, post_ok S (rep_mk _ _ (by rw [Int.add_mul, Int.mul_right_comm])) p⟩
    | ref h1 =>
      obtain ⟨n, xs, z1, e1, p⟩ := getL_inv p
      cases z1
      obtain ⟨b1, f1, vs1, g1, q1⟩ := S.ob _ _ e1
      rw [h1] at f1; cases f1
      have q := post_newL S (q1.rep j.toNat) p
      exact op_rep pins s σ H _ _ v u Q I rx ry ⟨_, j, _, rfl, rfl, g1, k1, k2, by rw [← mul_len]; exact q.1, q.2⟩
    | tup h q1 =>
      obtain ⟨hs, p⟩ := PostE.ifF p
      simp only [Bool.and_eq_true] at hs
      obtain ⟨s1, s2, s3, s4⟩ := hs
      have s1 := Nat.le_of_ble_eq_true s1
      have s2 := Nat.le_of_ble_eq_true s2
      have s3 := Nat.le_of_ble_eq_true s3
      have s4 := Nat.le_of_ble_eq_true s4
      have hl := q1.length
      have q := post_newT S (q1.rep j.toNat) p
      exact op_repT pins s σ H _ _ v u Q I rx ry ⟨_, j, _, rfl, rfl, SqT.of h, fun z => by rw [z] at hl; simp at hl; rw [hl] at s3; simp at s3, by omega, by omega, by omega, q.2.2⟩
    | _ => exact p.elim
  | aff c k =>
    cases r1 with
    | int i =>
      obtain ⟨hs, p⟩ := PostE.ifF p
      obtain ⟨k1, k2, k3⟩ := small_ok hs
      exact op_mul pins s σ H _ _ v u Q I rx ry ⟨i, _, rfl, rfl, cmul_l k3, post_ok S (rep_mk _ _ (by rw [Int.mul_add, Int.mul_assoc])) p⟩
    | _ => exact p.elim
  | _ => exact p.elim
theorem split_no {α : Type} {Γ : Pg} {f : α → M → Prop} (p : PostE f (splitMid Γ)) : False := by
  rcases PostE.ifB p with h | h
  · exact h.2.elim
  · exact h.2.elim
theorem oDiv_ok {Γ : Pg} : OpR X (binaryOp .FloorDiv) (rG X.K C (oDiv Γ)) := by
  intro pins s σ H x y v u Q I rx ry ⟨ι, m, w1, w2, S, r1, r2, p⟩
  cases r2 with
  | int j =>
    cases r1 with
    | int i =>
      obtain ⟨hs, p⟩ := PostE.ifF p
      rw [Bool.and_eq_true, Bool.not_eq_true', ieq_iff] at hs
      obtain ⟨k1, k2, k3⟩ := small_ok hs.2
      exact op_fdivN pins s σ H _ _ v u Q I rx ry ⟨i, j, rfl, rfl, ⟨of_decide_eq_false hs.1, by omega⟩, post_ok S (.int _) p⟩
    | aff c k =>
      rcases PostE.ifB p with h | h
      · obtain ⟨hs, p⟩ := h
        simp only [Bool.and_eq_true] at hs
        obtain ⟨s1, s2, s3, s4⟩ := hs
        rw [ilt_iff] at s1
        rw [ieq_iff] at s3 s4
        have s1 := of_decide_eq_true s1
        have s3 := of_decide_eq_true s3
        have s4 := of_decide_eq_true s4
        obtain ⟨k1, k2, k3⟩ := small_ok s2
        have e1 := Int.mul_fdiv_add_fmod c j
        have e2 := Int.mul_fdiv_add_fmod k j
        rw [s3, Int.add_zero] at e1
        rw [s4, Int.add_zero] at e2
        have e : (c + k * C.x).fdiv j = c.fdiv j + k.fdiv j * C.x := by
          have z : c + k * C.x = j * (c.fdiv j + k.fdiv j * C.x) := by
            rw [Int.mul_add, ← Int.mul_assoc, e1, e2]
          conv => lhs; rw [z]
          exact Int.mul_fdiv_cancel_left _ (by omega)
        exact op_fdivN pins s σ H _ _ v u Q I rx ry ⟨_, j, rfl, rfl, ⟨by omega, by omega⟩, post_ok S (rep_mk _ _ e) p⟩
      · exact (split_no h.2).elim
    | _ => exact p.elim
  | _ => exact p.elim
theorem oMod_ok {Γ : Pg} : OpR X (binaryOp .Mod) (rG X.K C (oMod Γ)) := by
  intro pins s σ H x y v u Q I rx ry ⟨ι, m, w1, w2, S, r1, r2, p⟩
  cases r2 with
  | int j =>
    cases r1 with
    | int i =>
      rcases PostE.ifB p with h | h
      · exact h.2.elim
      · obtain ⟨hs, p⟩ := h
        rw [ieq_iff] at hs
        exact op_modN pins s σ H _ _ v u Q I rx ry ⟨i, j, rfl, rfl, of_decide_eq_false hs, post_ok S (.int _) p⟩
    | aff c k =>
      rcases PostE.ifB p with h | h
      · obtain ⟨hs, p⟩ := h
        rw [Bool.and_eq_true, ilt_iff, ieq_iff] at hs
        have s1 := of_decide_eq_true hs.1
        have s2 := of_decide_eq_true hs.2
        have e2 := Int.mul_fdiv_add_fmod k j
        rw [s2, Int.add_zero] at e2
        have e : (c + k * C.x).fmod j = c.fmod j := by
          rw [← e2, Int.mul_assoc]
          exact Int.add_mul_fmod_self_left _ _ _
        exact op_modN pins s σ H _ _ v u Q I rx ry ⟨_, j, rfl, rfl, by omega, by show Q (V.int ((c + k * C.x).fmod j)) H; rw [e]; exact post_ok S (.int _) p⟩
      · exact (split_no h.2).elim
    | _ => exact p.elim
  | _ => exact p.elim
theorem bitAnd_nat (a b : Nat) : Builtin.bitAnd (Int.ofNat a) (Int.ofNat b) = Int.ofNat (a &&& b) := by
  unfold Builtin.bitAnd
  first | rfl | simp
theorem oAnd_ok {Γ : Pg} : OpR X (binaryOp .BitAnd) (rG X.K C (oAnd Γ)) := by
  intro pins s σ H x y v u Q I rx ry ⟨ι, m, w1, w2, S, r1, r2, p⟩
  cases r1 with
  | int i =>
    cases i with
    | ofNat a =>
      cases r2 with
      | int j =>
        cases j with
        | ofNat b => exact op_and pins s σ H _ _ v u Q I rx ry ⟨_, _, rfl, rfl, by show Q (.int (Builtin.bitAnd (Int.ofNat a) (Int.ofNat b))) H; rw [bitAnd_nat]; exact post_ok S (.int _) p⟩
        | negSucc b => exact p.elim
      | _ => exact p.elim
    | negSucc a => exact p.elim
  | _ => exact p.elim
theorem cpow {i : Int} {b : Nat} (h : (Nat.ble b 60 && small i) = true) : CPow i (Int.ofNat b) := by
  rw [Bool.and_eq_true] at h
  have h1 := Nat.le_of_ble_eq_true h.1
  obtain ⟨k1, k2, k3⟩ := small_ok h.2
  refine ⟨Int.natCast_nonneg _, ?_, by omega⟩
  show (b : Int) ≤ 1000000
  omega
theorem oShl_ok {Γ : Pg} : OpR X (binaryOp .LShift) (rG X.K C (oShl Γ)) := by
  intro pins s σ H x y v u Q I rx ry ⟨ι, m, w1, w2, S, r1, r2, p⟩
  cases r1 with
  | int i =>
    cases r2 with
    | int j =>
      cases j with
      | ofNat b =>
        obtain ⟨hs, p⟩ := PostE.ifF p
        exact op_shl pins s σ H _ _ v u Q I rx ry ⟨_, _, rfl, rfl, cpow hs, post_ok S (.int _) p⟩
      | negSucc b => exact p.elim
    | _ => exact p.elim
  | _ => exact p.elim
theorem oPow_ok {Γ : Pg} : OpR X (binaryOp .Pow) (rG X.K C (oPow Γ)) := by
  intro pins s σ H x y v u Q I rx ry ⟨ι, m, w1, w2, S, r1, r2, p⟩
  cases r1 with
  | int i =>
    cases r2 with
    | int j =>
      cases j with
      | ofNat b =>
        obtain ⟨hs, p⟩ := PostE.ifF p
        exact op_pow pins s σ H _ _ v u Q I rx ry ⟨_, _, rfl, rfl, cpow hs, post_ok S (.int _) p⟩
      | negSucc b => exact p.elim
    | _ => exact p.elim
  | _ => exact p.elim
/-- an operator of the language -/
def boP : Bo → Operator
  | .add => .Add | .sub => .Sub | .mul => .Mult | .fdiv => .FloorDiv | .mod => .Mod | .band => .BitAnd | .shl => .LShift | .pow => .Pow
theorem bin_ok {Γ : Pg} : ∀ o : Bo, OpR X (binaryOp (boP o)) (rG X.K C (binW Γ o))
  | .add => oAdd_ok (Γ := Γ) | .sub => oSub_ok (Γ := Γ) | .mul => oMul_ok (Γ := Γ) | .fdiv => oDiv_ok (Γ := Γ) | .mod => oMod_ok (Γ := Γ) | .band => oAnd_ok (Γ := Γ) | .shl => oShl_ok (Γ := Γ) | .pow => oPow_ok (Γ := Γ)
end
end Jw

/-! The evaluator's data: ==, < and the sorts. -/
namespace Jw
open PySem PySem.Spec PyProof.Rows L2
noncomputable section

/-! ### signs -/
theorem sgn_neg {c : Int} : sgn c = 0 ↔ c < 0 := by
  cases c with
  | ofNat n =>
    cases n with
    | zero => exact ⟨fun h => (by cases h), fun h => absurd h (by decide)⟩
    | succ n => exact ⟨fun h => (by cases h), fun h => by have : (0 : Int) ≤ Int.ofNat (n + 1) := Int.natCast_nonneg _; omega⟩
  | negSucc n => exact ⟨fun _ => Int.negSucc_lt_zero n, fun _ => rfl⟩
theorem sgn_zero {c : Int} : sgn c = 1 ↔ c = 0 := by
  cases c with
  | ofNat n =>
    cases n with
    | zero => exact ⟨fun _ => rfl, fun _ => rfl⟩
    | succ n => exact ⟨fun h => (by cases h), fun h => (by cases h)⟩
  | negSucc n => exact ⟨fun h => (by cases h), fun h => (by cases h)⟩
theorem sgn_pos {c : Int} : sgn c = 2 ↔ 0 < c := by
  cases c with
  | ofNat n =>
    cases n with
    | zero => exact ⟨fun h => (by cases h), fun h => absurd h (by decide)⟩
    | succ n => exact ⟨fun _ => Int.natCast_pos.mpr (Nat.succ_pos n), fun _ => rfl⟩
  | negSucc n => exact ⟨fun h => (by cases h), fun h => by have := Int.negSucc_lt_zero n; omega⟩
theorem lin_pos {lo hi x c k : Int} (h1 : lo ≤ x) (h2 : x ≤ hi) (a : 0 < c + k * lo) (b : 0 < c + k * hi) : 0 < c + k * x := by
  rcases Int.le_total 0 k with h | h
  · have := Int.mul_le_mul_of_nonneg_left h1 h; omega
  · have := Int.mul_le_mul_of_nonpos_left h h2; omega
theorem lin_neg {lo hi x c k : Int} (h1 : lo ≤ x) (h2 : x ≤ hi) (a : c + k * lo < 0) (b : c + k * hi < 0) : c + k * x < 0 := by
  rcases Int.le_total 0 k with h | h
  · have := Int.mul_le_mul_of_nonneg_left h2 h; omega
  · have := Int.mul_le_mul_of_nonpos_left h h1; omega
theorem signOf_ok {lo hi x c k : Int} {n : Nat} (h1 : lo ≤ x) (h2 : x ≤ hi) (h : signOf lo hi c k = .ok n) : n = sgn (c + k * x) := by
  unfold signOf at h
  cases e : ieq k 0 with
  | true =>
    rw [e] at h
    rw [ieq_iff] at e
    have e' : k = 0 := of_decide_eq_true e
    subst e'
    cases h
    rw [Int.zero_mul, Int.add_zero]
  | false =>
    rw [e] at h
    cases e2 : ieq lo hi with
    | true =>
      rw [e2] at h
      rw [ieq_iff] at e2
      have e' : lo = hi := of_decide_eq_true e2
      have : x = lo := by omega
      subst this
      cases h
      rfl
    | false =>
      rw [e2] at h
      cases e3 : (Nat.beq (sgn (c + k * lo)) (sgn (c + k * hi)) && !Nat.beq (sgn (c + k * lo)) 1) with
      | false => rw [e3] at h; cases h
      | true =>
        rw [e3] at h
        rw [Bool.and_eq_true, Bool.not_eq_true'] at e3
        have q1 : sgn (c + k * lo) = sgn (c + k * hi) := Nat.eq_of_beq_eq_true e3.1
        have q2 : sgn (c + k * lo) ≠ 1 := fun z => by rw [z] at e3; cases e3.2
        cases h
        rcases Int.lt_trichotomy (c + k * lo) 0 with z | z | z
        · have z2 := sgn_neg.mp (q1.symm.trans (sgn_neg.mpr z))
          rw [sgn_neg.mpr z, sgn_neg.mpr (lin_neg h1 h2 z z2)]
        · exact absurd (sgn_zero.mpr z) q2
        · have z2 := sgn_pos.mp (q1.symm.trans (sgn_pos.mpr z))
          rw [sgn_pos.mpr z, sgn_pos.mpr (lin_pos h1 h2 z z2)]
theorem sEq_ok {lo hi x c k : Int} {b : Bool} (h1 : lo ≤ x) (h2 : x ≤ hi) (h : sEq (signOf lo hi c k) = .ok b) : b = decide (c + k * x = 0) := by
  unfold sEq at h
  cases e : signOf lo hi c k with
  | error _ => rw [e] at h; cases h
  | ok n =>
    rw [e] at h
    cases h
    rw [signOf_ok h1 h2 e]
    by_cases z : c + k * x = 0
    · rw [sgn_zero.mpr z, decide_eq_true z]; rfl
    · rw [decide_eq_false z]
      cases q : Nat.beq (sgn (c + k * x)) 1
      · rfl
      · exact absurd (sgn_zero.mp (Nat.eq_of_beq_eq_true q)) z
theorem sLt_ok {lo hi x c k : Int} {b : Bool} (h1 : lo ≤ x) (h2 : x ≤ hi) (h : sLt (signOf lo hi c k) = .ok b) : b = decide (c + k * x < 0) := by
  unfold sLt at h
  cases e : signOf lo hi c k with
  | error _ => rw [e] at h; cases h
  | ok n =>
    rw [e] at h
    cases h
    rw [signOf_ok h1 h2 e]
    by_cases z : c + k * x < 0
    · rw [sgn_neg.mpr z, decide_eq_true z]; rfl
    · rw [decide_eq_false z]
      cases q : Nat.beq (sgn (c + k * x)) 0
      · rfl
      · exact absurd (sgn_neg.mp (Nat.eq_of_beq_eq_true q)) z

/-! ### data -/
def datO (g : W → PyData) : Option O → PyData
  | some (.lst xs) => .list (xs.map g)
  | _ => .none
def dat (x : Int) (m : M) : Nat → W → PyData
  | 0, _ => .none
  | f + 1, a => match a with
    | .non => .none
    | .bl b => .bool b
    | .int i => .int i
    | .aff c k => .int (c + k * x)
    | .str s => .str s
    | .tup xs => .tuple (xs.map (dat x m f))
    | .ref n => datO (dat x m f) (m.get n)
    | .glo _ => .none
theorem allL_ok {α : Type} {f : α → Bool} : ∀ {l : List α}, allL f l = true → ∀ y ∈ l, f y = true
  | [], _, _, h => by cases h
  | x :: xs, e, y, h => by
    have e' : Bool.rec false (allL f xs) (f x) = true := e
    cases hx : f x with
    | false => rw [hx] at e'; cases e'
    | true =>
      rw [hx] at e'
      rcases List.mem_cons.mp h with z | z
      · rw [z]; exact hx
      · exact allL_ok e' y z
theorem allL_cons {α : Type} {f : α → Bool} {x : α} {xs : List α} (e : allL f (x :: xs) = true) : f x = true ∧ allL f xs = true := by
  have e' : Bool.rec false (allL f xs) (f x) = true := e
  cases hx : f x with
  | false => rw [hx] at e'; cases e'
  | true => rw [hx] at e'; exact ⟨rfl, e'⟩
section
variable {K : PySem.W.Frag} {C : Cn} {ι : Im} {m : M} {H : Hp}
/-- what a value that is data reads as -/
theorem dt_dp (S : SimH K C ι m H) : ∀ (f : Nat) (w : W) (v : V), dtN m f w = true → RepV C (TT' K H) ι w v → Dp K H v (dat C.x m f w) ∧ (dat C.x m f w).plain = true ∧ (dat C.x m f w).depth ≤ f
  | 0, _, _, h, _ => by cases h
  | f + 1, w, v, h, r => by
    have list : ∀ (ws : List W) (vs : List V), allL (dtN m f) ws = true → RepVs C (TT' K H) ι ws vs → DpAll K H vs (ws.map (dat C.x m f)) ∧ PyData.plainAll (ws.map (dat C.x m f)) = true ∧ PyData.depthAll (ws.map (dat C.x m f)) ≤ f := by
      intro ws
      induction ws with
      | nil =>
        intro vs _ r
        cases r
        exact ⟨.nil, rfl, Nat.zero_le _⟩
      | cons w ws ih =>
        intro vs h r
        cases r with
        | cons r1 r2 =>
          obtain ⟨h1, h2⟩ := allL_cons h
          obtain ⟨a1, a2, a3⟩ := dt_dp S f _ _ h1 r1
          obtain ⟨b1, b2, b3⟩ := ih _ h2 r2
          refine ⟨.cons a1 b1, ?_, ?_⟩
          · show (PyData.plain _ && PyData.plainAll _) = true
            rw [a2, b2]; rfl
          · show max _ _ ≤ f
            exact Nat.max_le.mpr ⟨a3, b3⟩
    cases r with
    | non => exact ⟨.non, rfl, Nat.zero_le _⟩
    | bl b => exact ⟨.bl b, rfl, Nat.zero_le _⟩
    | int i => exact ⟨.int i, rfl, Nat.zero_le _⟩
    | aff c k => exact ⟨.int _, rfl, Nat.zero_le _⟩
    | str x => exact ⟨.str x, rfl, Nat.zero_le _⟩
    | tup ht rs =>
      obtain ⟨a, b, c⟩ := list _ _ h rs
      exact ⟨.tup (SqT.of ht) a, b, Nat.succ_le_succ c⟩
    | ref hn =>
      rename_i n a
      have h' : dLs (m.get n) (dtN m f) = true := h
      show Dp K H _ (datO (dat C.x m f) (m.get n)) ∧ (datO (dat C.x m f) (m.get n)).plain = true ∧ (datO (dat C.x m f) (m.get n)).depth ≤ _
      cases e : m.get n with
      | none => rw [e] at h'; cases h'
      | some o =>
        rw [e] at h'
        cases o with
        | lst ws =>
          obtain ⟨a', e1, vs, e2, rs⟩ := S.ob n _ e
          rw [hn] at e1; cases e1
          obtain ⟨p1, p2, p3⟩ := list _ _ h' rs
          exact ⟨.lst (.inl (.inl e2)) p1, p2, Nat.succ_le_succ p3⟩
        | _ => cases h'
    | glo k => cases h

/-! ### == -/
variable {lo hi : Int}
theorem exIf_ok {α : Type} {x : EB} {a b : Except Er α} {r : α} (h : exIf x a b = .ok r) : (x = .ok true ∧ a = .ok r) ∨ (x = .ok false ∧ b = .ok r) := by
  unfold exIf at h
  cases x with
  | error _ => cases h
  | ok c => cases c with
    | true => exact .inl ⟨rfl, h⟩
    | false => exact .inr ⟨rfl, h⟩
theorem exB_ok {α β : Type} {x : Except Er α} {f : α → Except Er β} {r : β} (h : exB x f = .ok r) : ∃ a, x = .ok a ∧ f a = .ok r := by
  unfold exB at h
  cases x with
  | error _ => cases h
  | ok c => exact ⟨c, rfl, h⟩
theorem exNot_ok {x : EB} {r : Bool} (h : exNot x = .ok r) : x = .ok (!r) := by
  unfold exNot at h
  cases x with
  | error _ => cases h
  | ok c => cases h; rw [Bool.not_not]
theorem beq_int (i j : Int) : (i == j) = decide (i = j) := by
  by_cases h : i = j
  · subst h; simp
  · rw [decide_eq_false h]; simpa using h
theorem eqN_dat (h1 : lo ≤ C.x) (h2 : C.x ≤ hi) : ∀ (f g : Nat) (a b : W) (r : Bool), dtN m g a = true → dtN m g b = true → eqN lo hi m f a b = .ok r → PyData.eqv (dat C.x m g a) (dat C.x m g b) = r
  | 0, _, _, _, _, _, _, h => by cases h
  | _ + 1, 0, _, _, _, h, _, _ => by cases h
  | f + 1, g + 1, a, b, r, ha, hb, h => by
    have list : ∀ (xs ys : List W) (r : Bool), allL (dtN m g) xs = true → allL (dtN m g) ys = true → allEq (eqN lo hi m f) xs ys = .ok r → PyData.eqvAll (xs.map (dat C.x m g)) (ys.map (dat C.x m g)) = r := by
      intro xs
      induction xs with
      | nil =>
        intro ys r _ _ h
        cases ys with
        | nil => cases h; rfl
        | cons y ys => cases h; rfl
      | cons x xs ih =>
        intro ys r hx hy h
        cases ys with
        | nil => cases h; rfl
        | cons y ys =>
          obtain ⟨x1, x2⟩ := allL_cons hx
          obtain ⟨y1, y2⟩ := allL_cons hy
          show (PyData.eqv _ _ && PyData.eqvAll _ _) = r
          have h' : exIf (eqN lo hi m f x y) (allEq (eqN lo hi m f) xs ys) (.ok false) = .ok r := h
          rcases exIf_ok h' with ⟨e, q⟩ | ⟨e, q⟩
          · rw [eqN_dat h1 h2 f g x y true x1 y1 e, ih ys r x2 y2 q]; rfl
          · cases q
            rw [eqN_dat h1 h2 f g x y false x1 y1 e]; rfl
    have noL : ∀ {n : Ad}, dtN m (g + 1) (.ref n) = true → ∃ xs, m.get n = some (.lst xs) ∧ allL (dtN m g) xs = true := fun {n} h => by
      have h' : dLs (m.get n) (dtN m g) = true := h
      cases e : m.get n with
      | none => rw [e] at h'; cases h'
      | some o =>
        rw [e] at h'
        cases o with
        | lst ws => exact ⟨ws, rfl, h'⟩
        | _ => cases h'
    have refD : ∀ {n : Ad} {xs : List W}, m.get n = some (.lst xs) → dat C.x m (g + 1) (.ref n) = .list (xs.map (dat C.x m g)) := fun {n xs} e => by
      show datO (dat C.x m g) (m.get n) = _
      rw [e]; rfl
    have h0 : eqS lo hi m (eqN lo hi m f) a b = .ok r := h
    cases a with
    | non =>
      cases b with
      | ref n =>
        obtain ⟨xs, e, _⟩ := noL hb
        have h0' : noLs (m.get n) = .ok r := h0
        rw [refD e]
        rw [e] at h0'
        cases h0'; rfl
      | glo k => cases hb
      | _ => cases h0; rfl
    | bl x =>
      cases b with
      | ref n =>
        obtain ⟨xs, e, _⟩ := noL hb
        have h0' : noLs (m.get n) = .ok r := h0
        rw [refD e]
        rw [e] at h0'
        cases h0'; rfl
      | glo k => cases hb
      | int _ => cases h0
      | aff _ _ => cases h0
      | _ => cases h0; rfl
    | int x =>
      cases b with
      | ref n =>
        obtain ⟨xs, e, _⟩ := noL hb
        have h0' : noLs (m.get n) = .ok r := h0
        rw [refD e]
        rw [e] at h0'
        cases h0'; rfl
      | glo k => cases hb
      | int y =>
        cases h0
        show (x == y) = _
        rw [ieq_iff, beq_int]
      | aff c k =>
        have h0' : sEq (signOf lo hi (x - c) (0 - k)) = .ok r := h0
        rw [sEq_ok h1 h2 h0']
        show (x == (c + k * C.x)) = _
        rw [beq_int, Int.zero_sub, Int.neg_mul]
        exact decide_eq_decide.mpr (by omega)
      | bl _ => cases h0
      | _ => cases h0; rfl
    | aff c k =>
      cases b with
      | ref n =>
        obtain ⟨xs, e, _⟩ := noL hb
        have h0' : noLs (m.get n) = .ok r := h0
        rw [refD e]
        rw [e] at h0'
        cases h0'; rfl
      | glo k => cases hb
      | int y =>
        have h0' : sEq (signOf lo hi (c - y) k) = .ok r := h0
        rw [sEq_ok h1 h2 h0']
        show ((c + k * C.x) == y) = _
        rw [beq_int]
        exact decide_eq_decide.mpr (by omega)
      | aff c' k' =>
        have h0' : sEq (signOf lo hi (c - c') (k - k')) = .ok r := h0
        rw [sEq_ok h1 h2 h0']
        show ((c + k * C.x) == (c' + k' * C.x)) = _
        rw [beq_int, Int.sub_mul]
        exact decide_eq_decide.mpr (by omega)
      | bl _ => cases h0
      | _ => cases h0; rfl
    | str x =>
      cases b with
      | ref n =>
        obtain ⟨xs, e, _⟩ := noL hb
        have h0' : noLs (m.get n) = .ok r := h0
        rw [refD e]
        rw [e] at h0'
        cases h0'; rfl
      | glo k => cases hb
      | str y =>
        cases h0
        show (x == y) = _
        by_cases z : x = y
        · subst z; simp
        · rw [decide_eq_false z]; simpa using z
      | _ => cases h0; rfl
    | tup xs =>
      cases b with
      | ref n =>
        obtain ⟨ys, e, _⟩ := noL hb
        have h0' : noLs (m.get n) = .ok r := h0
        rw [refD e]
        rw [e] at h0'
        cases h0'; rfl
      | glo k => cases hb
      | tup ys => exact list xs ys r ha hb h0
      | _ => cases h0; rfl
    | ref n =>
      obtain ⟨xs, e, hx⟩ := noL ha
      have h0' : eRef n lo hi m (eqN lo hi m f) b = .ok r := h0
      unfold eRef at h0'
      rw [e] at h0'
      rw [refD e]
      cases b with
      | ref n' =>
        obtain ⟨ys, e', hy⟩ := noL hb
        have h1' : eLs xs m (eqN lo hi m f) er1 (m.get n') = .ok r := h0'
        rw [e'] at h1'
        rw [refD e']
        exact list xs ys r hx hy h1'
      | glo k => cases hb
      | _ => cases h0'; rfl
    | glo k => cases ha
end
end
end Jw

namespace Jw
open PySem PySem.Spec PyProof.Rows L2
noncomputable section
section
variable {K : PySem.W.Frag} {C : Cn} {ι : Im} {m : M} {H : Hp} {lo hi : Int}
/-! ### < -/
def kdD : PyData → Nat
  | .none => 0 | .bool _ => 1 | .int _ => 2 | .str _ => 3 | .tuple _ => 4 | .list _ => 5 | .dict _ => 6
theorem alike_low {d e : PyData} (h : kdD d = kdD e) (h4 : kdD d < 4) : PySem.W.alike d e = true := by
  cases d <;> cases e <;> first | rfl | (simp [kdD] at h4; done) | (simp [kdD] at h; done)
theorem kd_dat {g : Nat} {a : W} (h : dtN m (g + 1) a = true) : kd m a = kdD (dat C.x m (g + 1) a) := by
  cases a with
  | ref n =>
    have h' : dLs (m.get n) (dtN m g) = true := h
    show kdO (m.get n) = kdD (datO (dat C.x m g) (m.get n))
    cases e : m.get n with
    | none => rw [e] at h'; cases h'
    | some o =>
      rw [e] at h'
      cases o with
      | lst ws => rfl
      | _ => cases h'
  | glo k => cases h
  | _ => rfl
theorem dt_its {g : Nat} {a : W} (h : dtN m (g + 1) a = true) : allL (dtN m g) (its m a) = true ∧ (dat C.x m (g + 1) a = .tuple ((its m a).map (dat C.x m g)) ∨ dat C.x m (g + 1) a = .list ((its m a).map (dat C.x m g)) ∨ (its m a = [] ∧ kd m a < 4)) := by
  cases a with
  | ref n =>
    have h' : dLs (m.get n) (dtN m g) = true := h
    show allL (dtN m g) (itO (m.get n)) = true ∧ (datO (dat C.x m g) (m.get n) = .tuple ((itO (m.get n)).map (dat C.x m g)) ∨ datO (dat C.x m g) (m.get n) = .list ((itO (m.get n)).map (dat C.x m g)) ∨ (itO (m.get n) = [] ∧ kdO (m.get n) < 4))
    cases e : m.get n with
    | none => rw [e] at h'; cases h'
    | some o =>
      rw [e] at h'
      cases o with
      | lst ws => exact ⟨h', .inr (.inl rfl)⟩
      | _ => cases h'
  | glo k => cases h
  | tup xs => exact ⟨h, .inl rfl⟩
  | non => exact ⟨rfl, .inr (.inr ⟨rfl, (by decide : 0 < 4)⟩)⟩
  | bl b => exact ⟨rfl, .inr (.inr ⟨rfl, (by decide : 1 < 4)⟩)⟩
  | int i => exact ⟨rfl, .inr (.inr ⟨rfl, (by decide : 2 < 4)⟩)⟩
  | aff c k => exact ⟨rfl, .inr (.inr ⟨rfl, (by decide : 2 < 4)⟩)⟩
  | str x => exact ⟨rfl, .inr (.inr ⟨rfl, (by decide : 3 < 4)⟩)⟩
theorem mem_heads : ∀ {ls : List (List W)} {x : W} {xs : List W}, (x :: xs) ∈ ls → x ∈ heads ls
  | l :: r, x, xs, h => by
    rcases List.mem_cons.mp h with z | z
    · subst z; exact List.mem_cons_self
    · cases l with
      | nil => exact mem_heads (ls := r) z
      | cons y ys => exact List.mem_cons_of_mem _ (mem_heads (ls := r) z)
theorem mem_tails : ∀ {ls : List (List W)} {x : W} {xs : List W}, (x :: xs) ∈ ls → xs ∈ tails ls
  | l :: r, x, xs, h => by
    rcases List.mem_cons.mp h with z | z
    · subst z; exact List.mem_cons_self
    · cases l with
      | nil => exact mem_tails (ls := r) z
      | cons y ys => exact List.mem_cons_of_mem _ (mem_tails (ls := r) z)
open PySem.W (alike alikeAll AllAlike Sortable dataLt dataLe)
theorem colOk_ok {g : Nat} {ok : List W → Bool} (hok : ∀ l, ok l = true → allL (dtN m g) l = true → ∀ a ∈ l, ∀ b ∈ l, alike (dat C.x m g a) (dat C.x m g b) = true) : ∀ (k : Nat) (ls : List (List W)), colOk ok k ls = true → (∀ l ∈ ls, allL (dtN m g) l = true) →
    ∀ a ∈ ls, ∀ b ∈ ls, alikeAll (a.map (dat C.x m g)) (b.map (dat C.x m g)) = true
  | k, ls, h, hd, [], ha, b, hb => by rw [List.map_nil, PySem.W.alikeAll]
  | k, ls, h, hd, x :: xs, ha, [], hb => by rw [List.map_nil, List.map_cons, PySem.W.alikeAll]
  | 0, ls, h, hd, x :: xs, ha, y :: ys, hb => by
    have h' : (heads ls).isEmpty = true := h
    have := mem_heads ha
    rw [List.isEmpty_iff.mp h'] at this
    cases this
  | k + 1, ls, h, hd, x :: xs, ha, y :: ys, hb => by
    have mx := mem_heads ha
    have h' : (List.casesOn (motive := fun _ => Bool) (heads ls) true fun _ _ => ok (heads ls) && colOk ok k (tails ls)) = true := h
    have h2 : (ok (heads ls) && colOk ok k (tails ls)) = true := by
      cases e : heads ls with
      | nil => rw [e] at mx; cases mx
      | cons z zs => rw [e] at h'; exact h'
    rw [Bool.and_eq_true] at h2
    have hh : allL (dtN m g) (heads ls) = true := by
      clear h h' h2 mx ha hb
      induction ls with
      | nil => rfl
      | cons l r ih =>
        have ih := ih fun l hl => hd l (List.mem_cons_of_mem _ hl)
        have hl := hd l List.mem_cons_self
        cases l with
        | nil => exact ih
        | cons z zs =>
          obtain ⟨q1, q2⟩ := allL_cons hl
          show Bool.rec false (allL (dtN m g) (heads r)) (dtN m g z) = true
          rw [q1]; exact ih
    have ht : ∀ l ∈ tails ls, allL (dtN m g) l = true := by
      clear h h' h2 mx ha hb hh
      induction ls with
      | nil => intro l hl; cases hl
      | cons l r ih =>
        have ih := ih fun l hl => hd l (List.mem_cons_of_mem _ hl)
        have hl := hd l List.mem_cons_self
        cases l with
        | nil => exact ih
        | cons z zs =>
          intro l' hl'
          rcases List.mem_cons.mp hl' with e | e
          · rw [e]; exact (allL_cons hl).2
          · exact ih l' e
    rw [List.map_cons, List.map_cons, PySem.W.alikeAll, hok _ h2.1 hh x mx y (mem_heads hb), colOk_ok hok k (tails ls) h2.2 ht xs (mem_tails ha) ys (mem_tails hb)]
    rfl
theorem alkN_ok : ∀ (f g : Nat) (l : List W), alkN m f l = true → allL (dtN m g) l = true → ∀ a ∈ l, ∀ b ∈ l, alike (dat C.x m g a) (dat C.x m g b) = true
  | 0, _, _, h, _, _, _, _, _ => by cases h
  | _ + 1, 0, [], _, _, _, h, _, _ => by cases h
  | _ + 1, 0, x :: xs, _, h, _, _, _, _ => by cases (allL_cons h).1
  | f + 1, g + 1, l, h, hd, a, ha, b, hb => by
    cases l with
    | nil => cases ha
    | cons x r =>
      have h' : (allL (fun y => Nat.beq (kd m y) (kd m x)) r && Bool.rec true (colOk (alkN m f) 64 ((x :: r).map (its m))) (Nat.ble 4 (kd m x))) = true := h
      rw [Bool.and_eq_true] at h'
      have hk : ∀ y ∈ x :: r, kd m y = kd m x := fun y hy => by
        rcases List.mem_cons.mp hy with e | e
        · rw [e]
        · exact Nat.eq_of_beq_eq_true (allL_ok h'.1 y e)
      have da := allL_ok hd a ha
      have db := allL_ok hd b hb
      have ka := kd_dat (C := C) da
      have kb := kd_dat (C := C) db
      have kab : kd m a = kd m b := (hk a ha).trans (hk b hb).symm
      obtain ⟨ia, ea⟩ := dt_its (C := C) da
      obtain ⟨ib, eb⟩ := dt_its (C := C) db
      by_cases h4 : 4 ≤ kd m x
      · have hc : colOk (alkN m f) 64 ((x :: r).map (its m)) = true := by
          have := h'.2
          rw [Nat.ble_eq_true_of_le h4] at this
          exact this
        have al := colOk_ok (C := C) (g := g) (fun l h1 h2 => alkN_ok f g l h1 h2) 64 _ hc (fun l hl => by
          obtain ⟨y, hy, rfl⟩ := List.mem_map.mp hl
          exact (dt_its (C := C) (allL_ok hd y hy)).1) (its m a) (List.mem_map_of_mem ha) (its m b) (List.mem_map_of_mem hb)
        have a4 : ¬ kd m a < 4 := by rw [hk a ha]; omega
        have b4 : ¬ kd m b < 4 := by rw [hk b hb]; omega
        rcases ea with ea | ea | ea
        · rcases eb with eb | eb | eb
          · rw [ea, eb, PySem.W.alike]; exact al
          · rw [ea] at ka; rw [eb] at kb; rw [ka, kb] at kab; cases kab
          · exact absurd eb.2 b4
        · rcases eb with eb | eb | eb
          · rw [ea] at ka; rw [eb] at kb; rw [ka, kb] at kab; cases kab
          · rw [ea, eb, PySem.W.alike]; exact al
          · exact absurd eb.2 b4
        · exact absurd ea.2 a4
      · have a4 : kd m a < 4 := by rw [hk a ha]; omega
        have b4 : kd m b < 4 := by rw [hk b hb]; omega
        rw [ka] at a4 kab
        rw [kb] at kab
        exact alike_low kab a4
theorem ltN_dat (h1 : lo ≤ C.x) (h2 : C.x ≤ hi) : ∀ (f g : Nat) (a b : W) (r : Bool), g ≤ 12 → dtN m g a = true → dtN m g b = true → alike (dat C.x m g a) (dat C.x m g b) = true → ltN lo hi m f a b = .ok r → dataLt (dat C.x m g a) (dat C.x m g b) = r
  | 0, _, _, _, _, _, _, _, _, h => by cases h
  | _ + 1, 0, _, _, _, _, h, _, _, _ => by cases h
  | f + 1, g + 1, a, b, r, hg, ha, hb, hal, h => by
    have list : ∀ (xs ys : List W) (r : Bool), allL (dtN m g) xs = true → allL (dtN m g) ys = true → alikeAll (xs.map (dat C.x m g)) (ys.map (dat C.x m g)) = true → lexLt (eqN lo hi m 12) (ltN lo hi m f) xs ys = .ok r →
        PyProof.Rows.lexLt itemOrd (PySem.W.keyToksAll (xs.map (dat C.x m g))) (PySem.W.keyToksAll (ys.map (dat C.x m g))) = r := by
      intro xs
      induction xs with
      | nil =>
        intro ys r _ _ _ h
        cases ys with
        | nil => cases h; rfl
        | cons y ys =>
          cases h
          simp only [List.map_nil, List.map_cons, PySem.W.keyToksAll]
          rw [lex_diff (O := itemOrd) (by simp)]
          rfl
      | cons x xs ih =>
        intro ys r hx hy hal h
        cases ys with
        | nil =>
          cases h
          simp only [List.map_nil, List.map_cons, PySem.W.keyToksAll]
          rw [lex_diff (O := itemOrd) (by simp)]
          rfl
        | cons y ys =>
          obtain ⟨x1, x2⟩ := allL_cons hx
          obtain ⟨y1, y2⟩ := allL_cons hy
          rw [List.map_cons, List.map_cons] at hal
          obtain ⟨l1, l2⟩ := PySem.W.alike_all_cons hal
          have h' : exIf (eqN lo hi m 12 x y) (lexLt (eqN lo hi m 12) (ltN lo hi m f) xs ys) (ltN lo hi m f x y) = .ok r := h
          rw [List.map_cons, List.map_cons]
          rcases exIf_ok h' with ⟨e, q⟩ | ⟨e, q⟩
          · rw [PySem.W.dataLt_all_yes l1 (eqN_dat h1 h2 12 g x y true x1 y1 e)]
            exact ih ys r x2 y2 l2 q
          · rw [PySem.W.dataLt_all_no l1 (eqN_dat h1 h2 12 g x y false x1 y1 e)]
            exact ltN_dat h1 h2 f g x y r (by omega) x1 y1 l1 q
    have noL : ∀ {n : Ad}, dtN m (g + 1) (.ref n) = true → ∃ xs, m.get n = some (.lst xs) ∧ allL (dtN m g) xs = true := fun {n} h => by
      have h' : dLs (m.get n) (dtN m g) = true := h
      cases e : m.get n with
      | none => rw [e] at h'; cases h'
      | some o =>
        rw [e] at h'
        cases o with
        | lst ws => exact ⟨ws, rfl, h'⟩
        | _ => cases h'
    have refD : ∀ {n : Ad} {xs : List W}, m.get n = some (.lst xs) → dat C.x m (g + 1) (.ref n) = .list (xs.map (dat C.x m g)) := fun {n xs} e => by
      show datO (dat C.x m g) (m.get n) = _
      rw [e]; rfl
    have h0 : ltS lo hi m (ltN lo hi m f) a b = .ok r := h
    cases a with
    | int x =>
      cases b with
      | int y =>
        cases h0
        show dataLt (.int x) (.int y) = _
        rw [PySem.W.dataLt_int, ilt_iff]
      | aff c k =>
        have h0' : sLt (signOf lo hi (x - c) (0 - k)) = .ok r := h0
        rw [sLt_ok h1 h2 h0']
        show dataLt (.int x) (.int (c + k * C.x)) = _
        rw [PySem.W.dataLt_int, Int.zero_sub, Int.neg_mul]
        exact decide_eq_decide.mpr (by omega)
      | _ => cases h0
    | aff c k =>
      cases b with
      | int y =>
        have h0' : sLt (signOf lo hi (c - y) k) = .ok r := h0
        rw [sLt_ok h1 h2 h0']
        show dataLt (.int (c + k * C.x)) (.int y) = _
        rw [PySem.W.dataLt_int]
        exact decide_eq_decide.mpr (by omega)
      | aff c' k' =>
        have h0' : sLt (signOf lo hi (c - c') (k - k')) = .ok r := h0
        rw [sLt_ok h1 h2 h0']
        show dataLt (.int (c + k * C.x)) (.int (c' + k' * C.x)) = _
        rw [PySem.W.dataLt_int, Int.sub_mul]
        exact decide_eq_decide.mpr (by omega)
      | _ => cases h0
    | tup xs =>
      cases b with
      | tup ys =>
        show dataLt (.tuple (xs.map (dat C.x m g))) (.tuple (ys.map (dat C.x m g))) = _
        rw [PySem.W.dataLt_tuple]
        have hal' : alike (.tuple (xs.map (dat C.x m g))) (.tuple (ys.map (dat C.x m g))) = true := hal
        rw [PySem.W.alike] at hal'
        exact list xs ys r ha hb hal' h0
      | _ => cases h0
    | ref n =>
      cases b with
      | ref n' =>
        obtain ⟨xs, e, hx⟩ := noL ha
        obtain ⟨ys, e', hy⟩ := noL hb
        have h0' : lRef n lo hi m (ltN lo hi m f) (.ref n') = .ok r := h0
        unfold lRef at h0'
        dsimp only at h0'
        rw [e] at h0'
        have h1' : lLs xs lo hi m (ltN lo hi m f) (m.get n') = .ok r := h0'
        rw [e'] at h1'
        rw [refD e, refD e', PySem.W.dataLt_list]
        rw [refD e, refD e', PySem.W.alike] at hal
        exact list xs ys r hx hy hal h1'
      | _ => cases h0
    | _ => cases h0
/-- what cmpOk says -/
theorem cmpOk_ok {l : List W} (h : cmpOk m l = true) : allL (dtN m 12) l = true ∧ (∀ a ∈ l, ∀ b ∈ l, alike (dat C.x m 12 a) (dat C.x m 12 b) = true) ∧ ∀ a ∈ l, dat C.x m 12 a ≠ .none := by
  unfold cmpOk at h
  rw [Bool.and_eq_true, Bool.and_eq_true] at h
  refine ⟨h.1, alkN_ok 12 12 l h.2.1 h.1, fun a ha e => ?_⟩
  have k := kd_dat (C := C) (allL_ok h.1 a ha)
  rw [e] at k
  have : Nat.blt 0 (kd m a) = true := allL_ok h.2.2 a ha
  rw [k] at this
  cases this
end
end
end Jw

/-! Keys of dicts. -/
namespace Jw
open PySem PySem.Spec PyProof.Rows L2
noncomputable section
section
variable {C : Cn} {lo hi : Int}
theorem keq0_ok (h1 : lo ≤ C.x) (h2 : C.x ≤ hi) {a b : W} {ka kb : Key} {c : Bool} (h : keq0 lo hi a b = .ok c) (ra : KR C a ka) (rb : KR C b kb) : c = decide (ka = kb) := by
  have inl : ∀ {x y : Int}, decide ((.inl x : Key) = .inl y) = decide (x = y) := fun {x y} => decide_eq_decide.mpr ⟨fun h => Sum.inl.inj h, fun h => by rw [h]⟩
  cases ra with
  | int i =>
    cases rb with
    | int j =>
      have h : (.ok (ieq i j) : EB) = .ok c := h
      cases h
      rw [inl, ieq_iff]
    | aff d k =>
      have h : sEq (signOf lo hi (i - d) (0 - k)) = .ok c := h
      rw [sEq_ok h1 h2 h, inl, Int.zero_sub, Int.neg_mul]
      exact decide_eq_decide.mpr (by omega)
    | str y => cases h; exact (decide_eq_false fun h => nomatch h).symm
  | aff d k =>
    cases rb with
    | int j =>
      have h : sEq (signOf lo hi (d - j) k) = .ok c := h
      rw [sEq_ok h1 h2 h, inl]
      exact decide_eq_decide.mpr (by omega)
    | aff d' k' =>
      have h : sEq (signOf lo hi (d - d') (k - k')) = .ok c := h
      rw [sEq_ok h1 h2 h, inl, Int.sub_mul]
      exact decide_eq_decide.mpr (by omega)
    | str y => cases h; exact (decide_eq_false fun h => nomatch h).symm
  | str x =>
    cases rb with
    | int j => cases h; exact (decide_eq_false fun h => nomatch h).symm
    | aff d' k' => cases h; exact (decide_eq_false fun h => nomatch h).symm
    | str y =>
      have h : (.ok (decide (x = y)) : EB) = .ok c := h
      cases h
      exact decide_eq_decide.mpr ⟨fun h => by rw [h], fun h => Sum.inr.inj h⟩
/-- the reading of keys -/
structure KeqOk {κ : Type} [DecidableEq κ] (lo hi : Int) (R : W → κ → Prop) : Prop where
  eq : ∀ {a b : W} {ka kb : κ} {c : Bool}, keq lo hi a b = .ok c → R a ka → R b kb → c = decide (ka = kb)
  hk : ∀ {a b : W} {ka kb : κ}, mayE (hkey a) (hkey b) = false → R a ka → R b kb → ka ≠ kb
theorem mayE_no {a b : Nat} (h : mayE a b = false) : a ≠ b ∧ a ≠ 0 ∧ b ≠ 0 := by
  unfold mayE at h
  cases h1 : Nat.beq a b with
  | true => rw [h1] at h; cases h
  | false =>
    rw [h1] at h
    cases h2 : Nat.beq a 0 with
    | true => rw [h2] at h; cases h
    | false =>
      rw [h2] at h
      have h : Nat.beq b 0 = false := h
      exact ⟨fun z => (by rw [z, Nat.beq_refl] at h1; cases h1), fun z => (by rw [z] at h2; cases h2), fun z => (by rw [z] at h; cases h)⟩
theorem hk0_det {a b : W} {k : Key} (ra : KR C a k) (rb : KR C b k) (ha : hk0 a ≠ 0) (hb : hk0 b ≠ 0) : hk0 a = hk0 b := by
  cases ra with
  | int i =>
    cases rb with
    | int _ => rfl
    | aff _ _ => exact (hb rfl).elim
  | aff _ _ => exact (ha rfl).elim
  | str x =>
    cases rb with
    | str _ => rfl
theorem hkL_cons {a : W} {l : List W} (h : hkL (a :: l) ≠ 0) : hkL l ≠ 0 ∧ hk0 a ≠ 0 ∧ hkL (a :: l) = 1000003 * hkL l + hk0 a := by
  have e : hkL (a :: l) = Bool.rec (Bool.rec (Nat.add (Nat.mul 1000003 (hkL l)) (hk0 a)) 0 (Nat.beq (hk0 a) 0)) 0 (Nat.beq (hkL l) 0) := rfl
  rw [e] at h ⊢
  cases h1 : Nat.beq (hkL l) 0 with
  | true => rw [h1] at h; exact (h rfl).elim
  | false =>
    rw [h1] at h
    cases h2 : Nat.beq (hk0 a) 0 with
    | true => rw [h2] at h; exact (h rfl).elim
    | false => exact ⟨fun z => (by rw [z] at h1; cases h1), fun z => (by rw [z] at h2; cases h2), rfl⟩
theorem hkL_det : ∀ {xs ys : List W} {ks : List Key}, KRs C xs ks → KRs C ys ks → hkL xs ≠ 0 → hkL ys ≠ 0 → hkL xs = hkL ys
  | [], [], _, .nil, .nil, _, _ => rfl
  | [], _ :: _, _, r, q, _, _ => by cases r; cases q
  | _ :: _, [], _, r, q, _, _ => by cases q; cases r
  | x :: xs, y :: ys, _ :: _, .cons a r, .cons b q, hx, hy => by
    obtain ⟨x1, x2, x3⟩ := hkL_cons hx
    obtain ⟨y1, y2, y3⟩ := hkL_cons hy
    rw [x3, y3, hkL_det r q x1 y1, hk0_det a b x2 y2]
theorem keq_kR (h1 : lo ≤ C.x) (h2 : C.x ≤ hi) : KeqOk lo hi (KR C) := ⟨fun {a b ka kb c} h ra rb => by
  refine keq0_ok h1 h2 (?_ : keq0 lo hi a b = .ok c) ra rb
  cases ra <;> exact h, fun {a b ka kb} h ra rb z => by
  obtain ⟨n1, n2, n3⟩ := mayE_no h
  subst z
  have e : ∀ {w : W}, KR C w ka → hkey w = hk0 w := fun q => by cases q <;> rfl
  rw [e ra] at n1 n2
  rw [e rb] at n1 n3
  exact n1 (hk0_det ra rb n2 n3)⟩
theorem keqL_ok (h1 : lo ≤ C.x) (h2 : C.x ≤ hi) : ∀ {xs ys : List W} {ks ls : List Key} {c : Bool}, keqL lo hi xs ys = .ok c → KRs C xs ks → KRs C ys ls → c = decide (ks = ls)
  | _, _, _, _, _, h, .nil, .nil => by
    have h : (.ok true : EB) = .ok _ := h
    cases h; rfl
  | _, _, _, _, _, h, .nil, .cons _ _ => by
    have h : (.ok false : EB) = .ok _ := h
    cases h; exact (decide_eq_false fun h => nomatch h).symm
  | _, _, _, _, _, h, .cons _ _, .nil => by
    have h : (.ok false : EB) = .ok _ := h
    cases h; exact (decide_eq_false fun h => nomatch h).symm
  | x :: xs, y :: ys, k :: ks, l :: ls, _, h, .cons a r, .cons b q => by
    rcases exIf_ok (show exIf (keq0 lo hi x y) (keqL lo hi xs ys) (.ok false) = .ok _ from h) with ⟨e1, e2⟩ | ⟨e1, e2⟩
    · have z := of_decide_eq_true (keq0_ok h1 h2 e1 a b).symm
      rw [keqL_ok h1 h2 e2 r q, z]
      exact decide_eq_decide.mpr ⟨fun h => by rw [h], fun h => (List.cons.inj h).2⟩
    · have z := of_decide_eq_false (keq0_ok h1 h2 e1 a b).symm
      cases e2
      exact (decide_eq_false fun q => z (List.cons.inj q).1).symm
theorem keq_kRT (h1 : lo ≤ C.x) (h2 : C.x ≤ hi) : KeqOk lo hi (KRT C) := ⟨fun {a b ka kb c} h ra rb => by
  cases ra with
  | mk r =>
    cases rb with
    | mk q => exact keqL_ok h1 h2 h r q, fun {a b ka kb} h ra rb z => by
  obtain ⟨n1, n2, n3⟩ := mayE_no h
  subst z
  cases ra with
  | mk r =>
    cases rb with
    | mk q => exact n1 (hkL_det r q n2 n3)⟩
end
section
variable {C : Cn} {T : Addr → List V → Prop} {ι : Im}
theorem key0_inv {w : W} {v : V} (h : keyOk0 w = true) (r : RepV C T ι w v) : ∃ k, KR C w k ∧ v = kV k := by
  cases r with
  | int i => exact ⟨.inl i, .int i, rfl⟩
  | aff c k => exact ⟨.inl _, .aff c k, rfl⟩
  | str x => exact ⟨.inr x, .str x, rfl⟩
  | _ => cases h
theorem keyL_inv : ∀ {ws : List W} {vs : List V}, allL keyOk0 ws = true → RepVs C T ι ws vs → ∃ ks, KRs C ws ks ∧ vs = ks.map kV
  | _, _, _, .nil => ⟨[], .nil, rfl⟩
  | _, _, h, .cons a r => by
    obtain ⟨h1, h2⟩ := allL_cons h
    obtain ⟨k, e, rfl⟩ := key0_inv h1 a
    obtain ⟨ks, e2, rfl⟩ := keyL_inv h2 r
    exact ⟨k :: ks, .cons e e2, rfl⟩
theorem keyT_inv {w : W} {v : V} (h : keyOk true w = true) (r : RepV C T ι w v) : ∃ k b, KRT C w k ∧ v = .ref b ∧ T b (k.map kV) := by
  cases r with
  | tup ht rs =>
    obtain ⟨ks, e, rfl⟩ := keyL_inv h rs
    exact ⟨ks, _, .mk e, rfl, ht⟩
  | _ => cases h
theorem kR_rep {w : W} {k : Key} (h : KR C w k) : RepV C T ι w (kV k) := by
  cases h
  · exact .int _
  · exact .aff _ _
  · exact .str _
theorem kRs_rep : ∀ {ws : List W} {ks : List Key}, KRs C ws ks → RepVs C T ι ws (ks.map kV)
  | _, _, .nil => .nil
  | _, _, .cons a r => .cons (kR_rep a) (kRs_rep r)
variable {κ : Type} [DecidableEq κ] {R : W → κ → Prop} {lo hi : Int}
theorem find_ok (hq : KeqOk lo hi R) {a : W} {k : κ} (ha : R a k) : ∀ {l : List (W × W)} {r : List (κ × V)} {o : Option W}, findW lo hi a l = .ok o → RepK C T ι R l r → (o = none ∧ valV r k = none) ∨ ∃ w v, o = some w ∧ valV r k = some v ∧ RepV C T ι w v
  | _, _, _, h, .nil => by
    have h : (.ok none : Except Er (Option W)) = .ok _ := h
    cases h
    exact .inl ⟨rfl, rfl⟩
  | (b, w) :: l, (j, v) :: r, _, h, .cons hb q t => by
    have h : (Bool.rec (findW lo hi a l) (exIf (keq lo hi b a) (.ok (some w)) (findW lo hi a l)) (mayE (hkey b) (hkey a)) : Except Er (Option W)) = .ok _ := h
    cases hm : mayE (hkey b) (hkey a) with
    | false =>
      rw [hm] at h
      rw [valV_neg (hq.hk hm hb ha)]
      exact find_ok hq ha h t
    | true =>
      rw [hm] at h
      rcases exIf_ok h with ⟨e1, e2⟩ | ⟨e1, e2⟩
      · have z := of_decide_eq_true (hq.eq e1 hb ha).symm
        subst z
        cases e2
        rw [valV_pos rfl]
        exact .inr ⟨w, v, rfl, rfl, q⟩
      · have z := of_decide_eq_false (hq.eq e1 hb ha).symm
        rw [valV_neg z]
        exact find_ok hq ha e2 t
theorem RepK.snoc {a : W} {k : κ} (ha : R a k) {w : W} {v : V} (q : RepV C T ι w v) : ∀ {l : List (W × W)} {r : List (κ × V)}, RepK C T ι R l r → RepK C T ι R (l ++ [(a, w)]) (r ++ [(k, v)])
  | _, _, .nil => .cons ha q .nil
  | _, _, .cons e a b => .cons e a (RepK.snoc ha q b)
theorem repl_ok (hq : KeqOk lo hi R) {a : W} {k : κ} (ha : R a k) {w : W} {v : V} (q : RepV C T ι w v) : ∀ {l l' : List (W × W)} {r : List (κ × V)}, replW lo hi a w l = .ok l' → RepK C T ι R l r →
    RepK C T ι R l' (r.map fun kv => if kv.1 = k then (kv.1, v) else kv)
  | _, _, _, h, .nil => by
    have h : (.ok [] : Except Er (List (W × W))) = .ok _ := h
    cases h; exact .nil
  | (b, w') :: l, l', (j, v') :: r, h, .cons hb p t => by
    have h : (Bool.rec (exB (replW lo hi a w l) fun q => .ok ((b, w') :: q)) (exIf (keq lo hi b a) (exB (replW lo hi a w l) fun q => .ok ((b, w) :: q)) (exB (replW lo hi a w l) fun q => .ok ((b, w') :: q))) (mayE (hkey b) (hkey a)) : Except Er (List (W × W))) = .ok _ := h
    have no : ¬ j = k → (exB (replW lo hi a w l) fun q => .ok ((b, w') :: q)) = .ok l' → RepK C T ι R l' (((j, v') :: r).map fun kv => if kv.1 = k then (kv.1, v) else kv) := fun z e2 => by
      obtain ⟨l2, e3, e4⟩ := exB_ok e2
      cases e4
      show RepK C T ι R _ ((if j = k then (j, v) else (j, v')) :: _)
      rw [if_neg z]
      exact .cons hb p (repl_ok hq ha q e3 t)
    cases hm : mayE (hkey b) (hkey a) with
    | false =>
      rw [hm] at h
      exact no (hq.hk hm hb ha) h
    | true =>
      rw [hm] at h
      rcases exIf_ok h with ⟨e1, e2⟩ | ⟨e1, e2⟩
      · have z := of_decide_eq_true (hq.eq e1 hb ha).symm
        obtain ⟨l2, e3, e4⟩ := exB_ok e2
        cases e4
        show RepK C T ι R _ ((if j = k then (j, v) else (j, v')) :: _)
        rw [if_pos z]
        exact .cons hb q (repl_ok hq ha q e3 t)
      · exact no (of_decide_eq_false (hq.eq e1 hb ha).symm) e2
theorem put_ok (hq : KeqOk lo hi R) {a : W} {k : κ} (ha : R a k) {w : W} {v : V} (q : RepV C T ι w v) {l l' : List (W × W)} {r : List (κ × V)} (e : putW lo hi a w l = .ok l') (h : RepK C T ι R l r) : RepK C T ι R l' (putK r k v) := by
  unfold putW at e
  obtain ⟨o, e1, e2⟩ := exB_ok e
  unfold putK
  rw [valV_any]
  rcases find_ok hq ha e1 h with ⟨rfl, f2⟩ | ⟨w', v', rfl, f2, _⟩
  · rw [f2, if_neg (by decide)]
    have e2 : (.ok (l ++ [(a, w)]) : Except Er (List (W × W))) = .ok l' := e2
    cases e2
    exact h.snoc ha q
  · rw [f2]
    exact repl_ok hq ha q e2 h
theorem RepK.length : ∀ {l : List (W × W)} {r : List (κ × V)}, RepK C T ι R l r → l.length = r.length
  | _, _, .nil => rfl
  | _, _, .cons _ _ b => by rw [List.length_cons, List.length_cons, RepK.length b]
end
section
variable {C : Cn} {K : PySem.W.Frag} {ι : Im} {H : Hp} {m : M}
/-- a dict, locked or not -/
def DcAt (m : M) (n : Ad) (t : Bool) (kvs : List (W × W)) : Prop := m.get n = some (.dict t kvs) ∨ m.get n = some (.frd t kvs)
/-- a dict at a key -/
theorem dict_at {lo hi : Int} (b1 : lo ≤ C.x) (b2 : C.x ≤ hi) (S : SimH K C ι m H) {n : Ad} {a : Addr} {t : Bool} {kvs : List (W × W)} {k : W} {y : V} {q : Option W} (hn : ι n = some a) (e : DcAt m n t kvs) (hk : keyOk t k = true) (r : RepV C (TT' K H) ι k y) (hf : findW lo hi k kvs = .ok q) :
    ∃ o, DGet H a y o ∧ ((q = none ∧ o = none) ∨ ∃ w v, q = some w ∧ o = some v ∧ RepV C (TT' K H) ι w v) := by
  rcases e with e | e
  rotate_left
  · obtain ⟨a', e1, e2⟩ := S.ob n _ e
    rw [hn] at e1; cases e1
    cases t with
    | false =>
      obtain ⟨od, ks, h1, h2⟩ := e2
      obtain ⟨k', hk', rfl⟩ := key0_inv hk r
      exact ⟨_, .inl ⟨ks, k', .inr ⟨od, h1⟩, rfl, rfl⟩, find_ok (keq_kR b1 b2) hk' hf h2⟩
    | true =>
      obtain ⟨od, ks, h1, h2⟩ := e2
      obtain ⟨k', b, hk', rfl, hb⟩ := keyT_inv hk r
      exact ⟨_, .inr ⟨ks, k', b, .inr ⟨od, h1⟩, rfl, hb, rfl⟩, find_ok (keq_kRT b1 b2) hk' hf h2⟩
  obtain ⟨a', e1, e2⟩ := S.ob n _ e
  rw [hn] at e1; cases e1
  cases t with
  | false =>
    obtain ⟨ks, h1, h2⟩ := e2
    obtain ⟨k', hk', rfl⟩ := key0_inv hk r
    exact ⟨_, DGet.k h1, find_ok (keq_kR b1 b2) hk' hf h2⟩
  | true =>
    obtain ⟨ks, h1, h2⟩ := e2
    obtain ⟨k', b, hk', rfl, hb⟩ := keyT_inv hk r
    exact ⟨_, DGet.t h1 hb, find_ok (keq_kRT b1 b2) hk' hf h2⟩
/-- a dict is written -/
theorem dict_put {lo hi : Int} (b1 : lo ≤ C.x) (b2 : C.x ≤ hi) (S : SimH K C ι m H) {n : Ad} {a : Addr} {t : Bool} {kvs l : List (W × W)} {k w : W} {y v : V} (hn : ι n = some a) (e : m.get n = some (.dict t kvs)) (hk : keyOk t k = true) (r : RepV C (TT' K H) ι k y) (q : RepV C (TT' K H) ι w v)
    (hl : kvs.length < sizeLine) (hp : putW lo hi k w kvs = .ok l) : ∃ H', DPut H a y v H' ∧ SimH K C ι (m.put n (.dict t l)) H' ∧ Tk K H H' := by
  obtain ⟨a', e1, e2⟩ := S.ob n _ e
  rw [hn] at e1; cases e1
  have hs : n ≠ [] := S.ne_root e (by intro z; cases z)
  cases t with
  | false =>
    obtain ⟨ks, h1, h2⟩ := e2
    obtain ⟨k', hk', rfl⟩ := key0_inv hk r
    have tk := tk_dK (K := K) (o := .dK (putK ks k' v)) h1
    exact ⟨_, DPut.k h1 (by rw [← h2.length]; exact hl), S.put hn hs (.inr (.inl ⟨_, h1⟩)) tk ⟨_, upd_same, ((put_ok (keq_kR b1 b2) hk' q hp h2).mono tk (Le.refl ι))⟩, tk⟩
  | true =>
    obtain ⟨ks, h1, h2⟩ := e2
    obtain ⟨k', b, hk', rfl, hb⟩ := keyT_inv hk r
    have tk := tk_dT (K := K) (o := .dT (putK ks k' v)) h1
    exact ⟨_, DPut.t h1 hb (by rw [← h2.length]; exact hl), S.put hn hs (.inr (.inr (.inl ⟨_, h1⟩))) tk ⟨_, upd_same, ((put_ok (keq_kRT b1 b2) hk' q hp h2).mono tk (Le.refl ι))⟩, tk⟩
end
end
end Jw

/-! Comparisons, tests, expressions: the evaluator keeps what the program's do. -/
namespace Jw
open PySem PySem.Spec PyProof.Rows L2
noncomputable section

/-- what an expression of ours is as a piece of syntax -/
structure Nice (e : Expr) : Prop where
  star : ∀ es env, starEach (e :: es) env = (false, eval e env) :: starEach es env
  fold : ∀ env x, foldedSetIterable e env x = pure x
  sub : PlainIx e
  mark : ∀ op, behindInMarks op e = false
  aug : ∀ ov iv new, augStore e ov iv new = (do holding [new, ov, iv] (setItem ov iv new); release [new, ov, iv] []; pure .next)
  asg : ∀ o pos env v, assign (.Subscript o e pos) env v = (do
      let ov ← holding [v] (eval o env)
      let iv ← holding [v, ov] (eval e env)
      standAt pos
      holding [v, ov, iv] (setItem ov iv v)
      release [v, ov, iv] [])

def QB (K : PySem.W.Frag) (C : Cn) (ι : Im) (H : Hp) (Q : Bool → Hp → Prop) : W → M → Prop := fun w m => ∃ b, w = .bl b ∧ ∀ ι' H', SimH K C ι' m H' → Le ι ι' → Tk K H H' → Q b H'
/-- a test's reading by an evaluation -/
def tT (K : PySem.W.Frag) (C : Cn) (g : Sl → M → RE W) : L2.TT := fun σ H Q => ∃ ι σ' m, SimS K C ι H σ' σ ∧ SimH K C ι m H ∧ PostE (QB K C ι H Q) (g σ' m)
theorem _root_.L2.PE.mono {X : Cx} {e : Expr} {t t' : TE} (h : PE X e t) (hm : ∀ σ H Q, t' σ H Q → t σ H Q) : PE X e t' := ⟨fun pins s σ H Q I q => h.run pins s σ H Q I (hm _ _ _ q)⟩
theorem _root_.L2.PT.mono {X : Cx} {e : Expr} {t t' : L2.TT} (h : PT X e t) (hm : ∀ σ H Q, t' σ H Q → t σ H Q) : PT X e t' := ⟨fun pins s σ H Q I q => h.run pins s σ H Q I (hm _ _ _ q)⟩
/-- e does what g does, as a value and as a test -/
structure Snd (X : Cx) (C : Cn) (e : Expr) (g : Sl → M → RE W) : Prop where
  nice : Nice e
  pe : PE X e (tG X.K C g)
  pt : PT X e (tT X.K C g)

section
variable {X : Cx} {C : Cn} {K : PySem.W.Frag} {ι : Im} {H : Hp} {m : M} {Q : VK} {Γ : Pg} {g ga gb gc gd : Sl → M → RE W} {a b c e d : Expr} {pos : Pos}
theorem tT_tG {σ : L2.St} {Q : Bool → Hp → Prop} (h : tT K C g σ H Q) : tG K C g σ H (fun x H' => ∃ k, x = .bl k ∧ Q k H') := by
  obtain ⟨ι, σ', m, s, S, p⟩ := h
  refine ⟨ι, σ', m, s, S, PostE.mono (fun w m1 ⟨b, e, q⟩ ι' H' v S' l t r => ?_) p⟩
  subst e
  cases r
  exact ⟨b, rfl, q ι' H' S' l t⟩
/-- an expression that is no test of its own form -/
theorem Snd.val (n : Nice e) (h : PE X e (tG X.K C g)) (he : ∀ whole, isTrue e X.env whole = (do let v ← whole; standAt e.pos; holding [v] (truthy v))) : Snd X C e g :=
  ⟨n, h, PT.mono (pt_val h he) fun _ _ _ q => tT_tG q⟩
theorem tT_bind {σ' : Sl} {σ : L2.St} {α : Type} {k : W → M → RE α} {f : α → M → Prop} {Q : Bool → Hp → Prop} (s : SimS K C ι H σ' σ) (S : SimH K C ι m H)
    (h : PostE f (REbind (g σ' m) fun w m1 => onB w fun b => k (.bl b) m1))
    (hQ : ∀ ι1 H1 b m1, Le ι ι1 → Tk K H H1 → SimS K C ι1 H1 σ' σ → SimH K C ι1 m1 H1 → PostE f (k (.bl b) m1) → Q b H1) : tT K C g σ H Q :=
  ⟨ι, σ', m, s, S, PostE.mono (fun w m1 p => by
    obtain ⟨b, e, p⟩ := PostE.liftO p
    cases w with
    | bl z =>
      cases e
      exact ⟨_, rfl, fun ι1 H1 S1 l t => hQ ι1 H1 _ m1 l t (s.mono t l) S1 p⟩
    | _ => cases e) (PostE.bind h)⟩
theorem onB_inv {α : Type} {f : α → M → Prop} {w : W} {k : Bool → RE α} (p : PostE f (onB w k)) : ∃ b, w = .bl b ∧ PostE f (k b) := by
  obtain ⟨b, e, p⟩ := PostE.liftO p
  cases w with
  | bl c => cases e; exact ⟨_, rfl, p⟩
  | _ => cases e
theorem QB.base {ι1 : Im} {H1 : Hp} {Q : Bool → Hp → Prop} {w : W} (l : Le ι ι1) (t : Tk K H H1) (h : QB K C ι H Q w m) : QB K C ι1 H1 Q w m := by
  obtain ⟨b, e, q⟩ := h
  exact ⟨b, e, fun ι' H' s l' t' => q ι' H' s (l.trans l') (t.trans t')⟩

/-! ### comparisons -/
theorem okB_inv {f : W → M → Prop} {x : EB} (p : PostE f (okB x m)) : ∃ b, x = .ok b ∧ f (.bl b) m := PostE.lift p
abbrev rGc (K : PySem.W.Frag) (C : Cn) (g : W → W → M → EB) : R2 := rG K C fun a b m => okB (g a b m) m
theorem chk_and {x : EB} {e : EB} {p q : Bool} {r : Bool} (h : (Bool.rec e x (p && q) : EB) = .ok r) (he : e ≠ .ok r) : p = true ∧ q = true ∧ x = .ok r := by
  cases p <;> cases q
  · exact (he h).elim
  · exact (he h).elim
  · exact (he h).elim
  · exact ⟨rfl, rfl, h⟩
theorem er1_ne {r : Bool} : er1 ≠ .ok r := fun h => by cases h
theorem er2_ne {r : Bool} : er2 ≠ .ok r := fun h => by cases h
structure Rng (Γ : Pg) (C : Cn) : Prop where
  lo : Γ.lo ≤ C.x
  hi : C.x ≤ Γ.hi
theorem eqW_dat (R : Rng Γ C) {a b : W} {r : Bool} (h : eqW Γ.lo Γ.hi m a b = .ok r) : dtN m 12 a = true ∧ dtN m 12 b = true ∧ PyData.eqv (dat C.x m 12 a) (dat C.x m 12 b) = r := by
  obtain ⟨h1, h2, h3⟩ := chk_and h er1_ne
  exact ⟨h1, h2, eqN_dat R.lo R.hi 12 12 a b r h1 h2 h3⟩
theorem ltW_dat (R : Rng Γ C) {a b : W} {r : Bool} (h : ltW Γ.lo Γ.hi m a b = .ok r) : dtN m 12 a = true ∧ dtN m 12 b = true ∧ PySem.W.alike (dat C.x m 12 a) (dat C.x m 12 b) = true ∧ PySem.W.alike (dat C.x m 12 b) (dat C.x m 12 a) = true ∧ dat C.x m 12 a ≠ .none ∧ dat C.x m 12 b ≠ .none ∧ PySem.W.dataLt (dat C.x m 12 a) (dat C.x m 12 b) = r := by
  have h' : (Bool.rec er2 (ltN Γ.lo Γ.hi m 12 a b) (cmpOk m [a, b]) : EB) = .ok r := h
  cases hc : cmpOk m [a, b] with
  | false => rw [hc] at h'; exact (er2_ne h').elim
  | true =>
    rw [hc] at h'
    obtain ⟨d, al, nn⟩ := cmpOk_ok (C := C) hc
    have d1 := allL_ok d a (by simp)
    have d2 := allL_ok d b (by simp)
    have ab := al a (by simp) b (by simp)
    exact ⟨d1, d2, ab, al b (by simp) a (by simp), nn a (by simp), nn b (by simp), ltN_dat R.lo R.hi 12 12 a b r (Nat.le_refl _) d1 d2 ab h'⟩
theorem room12 {A : Around} {d : PyData} {e : PyData} (hu : A.units + 64 < cLine) (h : d.depth ≤ 12) : A.units + min d.depth e.depth < cLine := by
  have := Nat.min_le_left d.depth e.depth
  omega
theorem room13 {A : Around} {d : Nat} {e : Nat} (hu : A.units + 64 < cLine) (h : d ≤ 12) : A.units + 1 + min d e < cLine := by
  have := Nat.min_le_left d e
  omega
section
variable (R : Rng Γ C) (hu : X.A.units + 64 < cLine)
include R hu
theorem cEq_ok : OpR X (compareOp .Eq) (rGc X.K C (cEq Γ)) := by
  intro pins s σ H x y v u Q I rx ry ⟨ι, m, w1, w2, S, r1, r2, p⟩
  obtain ⟨r, e, p⟩ := okB_inv p
  obtain ⟨h1, h2, h3⟩ := eqW_dat R e
  obtain ⟨d1, p1, z1⟩ := dt_dp S 12 _ _ h1 r1
  obtain ⟨d2, p2, z2⟩ := dt_dp S 12 _ _ h2 r2
  obtain ⟨as, q1⟩ := Dp.reads I _ _ _ d1 rx
  obtain ⟨bs, q2⟩ := Dp.reads I _ _ _ d2 ry
  exact PySem.SeqAt.eq_plain q1 q2 p1 p2 (room12 hu z1) ⟨.bl _, H, I, rfl, by rw [h3]; exact post_ok S (.bl r) p⟩
theorem cNe_ok : OpR X (compareOp .NotEq) (rGc X.K C (cNe Γ)) := by
  intro pins s σ H x y v u Q I rx ry ⟨ι, m, w1, w2, S, r1, r2, p⟩
  obtain ⟨r, e, p⟩ := okB_inv p
  obtain ⟨h1, h2, h3⟩ := eqW_dat R (exNot_ok e)
  obtain ⟨d1, p1, z1⟩ := dt_dp S 12 _ _ h1 r1
  obtain ⟨d2, p2, z2⟩ := dt_dp S 12 _ _ h2 r2
  obtain ⟨as, q1⟩ := Dp.reads I _ _ _ d1 rx
  obtain ⟨bs, q2⟩ := Dp.reads I _ _ _ d2 ry
  exact PySem.SeqAt.ne_plain q1 q2 p1 p2 (room12 hu z1) ⟨.bl _, H, I, rfl, by rw [h3, Bool.not_not]; exact post_ok S (.bl r) p⟩
theorem cLt_ok : OpR X (compareOp .Lt) (rGc X.K C (cLt Γ)) := by
  intro pins s σ H x y v u Q I rx ry ⟨ι, m, w1, w2, S, r1, r2, p⟩
  obtain ⟨r, e, p⟩ := okB_inv p
  obtain ⟨h1, h2, al, al', n1, n2, h3⟩ := ltW_dat R e
  obtain ⟨d1, p1, z1⟩ := dt_dp S 12 _ _ h1 r1
  obtain ⟨d2, p2, z2⟩ := dt_dp S 12 _ _ h2 r2
  obtain ⟨as, q1⟩ := Dp.reads I _ _ _ d1 rx
  obtain ⟨bs, q2⟩ := Dp.reads I _ _ _ d2 ry
  exact PySem.W.lt_data q1 q2 al n1 (room12 hu z1) ⟨.bl _, H, I, rfl, by rw [h3]; exact post_ok S (.bl r) p⟩
theorem cGt_ok : OpR X (compareOp .Gt) (rGc X.K C (cGt Γ)) := by
  intro pins s σ H x y v u Q I rx ry ⟨ι, m, w1, w2, S, r1, r2, p⟩
  obtain ⟨r, e, p⟩ := okB_inv p
  obtain ⟨h1, h2, al, al', n1, n2, h3⟩ := ltW_dat R e
  obtain ⟨d1, p1, z1⟩ := dt_dp S 12 _ _ h1 r2
  obtain ⟨d2, p2, z2⟩ := dt_dp S 12 _ _ h2 r1
  obtain ⟨as, q1⟩ := Dp.reads I _ _ _ d1 ry
  obtain ⟨bs, q2⟩ := Dp.reads I _ _ _ d2 rx
  exact PySem.W.gt_data q2 q1 al' n2 (room12 hu z2) ⟨.bl _, H, I, rfl, by rw [h3]; exact post_ok S (.bl r) p⟩
theorem cLe_ok : OpR X (compareOp .LtE) (rGc X.K C (cLe Γ)) := by
  intro pins s σ H x y v u Q I rx ry ⟨ι, m, w1, w2, S, r1, r2, p⟩
  obtain ⟨r, e, p⟩ := okB_inv p
  obtain ⟨h1, h2, al, al', n1, n2, h3⟩ := ltW_dat R (exNot_ok e)
  obtain ⟨d1, p1, z1⟩ := dt_dp S 12 _ _ h1 r2
  obtain ⟨d2, p2, z2⟩ := dt_dp S 12 _ _ h2 r1
  obtain ⟨as, q1⟩ := Dp.reads I _ _ _ d1 ry
  obtain ⟨bs, q2⟩ := Dp.reads I _ _ _ d2 rx
  exact PySem.W.le_data q2 q1 al' n2 (room12 hu z2) ⟨.bl _, H, I, rfl, by rw [h3, Bool.not_not]; exact post_ok S (.bl r) p⟩
theorem cGe_ok : OpR X (compareOp .GtE) (rGc X.K C (cGe Γ)) := by
  intro pins s σ H x y v u Q I rx ry ⟨ι, m, w1, w2, S, r1, r2, p⟩
  obtain ⟨r, e, p⟩ := okB_inv p
  obtain ⟨h1, h2, al, al', n1, n2, h3⟩ := ltW_dat R (exNot_ok e)
  obtain ⟨d1, p1, z1⟩ := dt_dp S 12 _ _ h1 r1
  obtain ⟨d2, p2, z2⟩ := dt_dp S 12 _ _ h2 r2
  obtain ⟨as, q1⟩ := Dp.reads I _ _ _ d1 rx
  obtain ⟨bs, q2⟩ := Dp.reads I _ _ _ d2 ry
  exact PySem.W.ge_data q1 q2 al n1 (room12 hu z1) ⟨.bl _, H, I, rfl, by rw [h3, Bool.not_not]; exact post_ok S (.bl r) p⟩
omit hu in
theorem memI_dat {x : W} (hx : dtN m 12 x = true) : ∀ {l : List W} {r : Bool}, allL (dtN m 12) l = true → memI Γ.lo Γ.hi m x l = .ok r → ((l.map (dat C.x m 12)).any fun y => PyData.eqv y (dat C.x m 12 x)) = r
  | [], r, _, h => by cases h; rfl
  | y :: ys, r, hl, h => by
    obtain ⟨h1, h2⟩ := allL_cons hl
    have h' : exIf (eqN Γ.lo Γ.hi m 12 y x) (.ok true) (memI Γ.lo Γ.hi m x ys) = .ok r := h
    rw [List.map_cons, List.any_cons]
    rcases exIf_ok h' with ⟨e, q⟩ | ⟨e, q⟩
    · cases q
      rw [eqN_dat R.lo R.hi 12 12 y x true h1 hx e]; rfl
    · rw [eqN_dat R.lo R.hi 12 12 y x false h1 hx e, memI_dat hx h2 q]; rfl
omit R hu in
theorem dt_all (S : SimH K C ι m H) {ws : List W} {vs : List V} (h : allL (dtN m 12) ws = true) (r : RepVs C (TT' K H) ι ws vs) : DpAll K H vs (ws.map (dat C.x m 12)) ∧ PyData.plainAll (ws.map (dat C.x m 12)) = true ∧ PyData.depthAll (ws.map (dat C.x m 12)) ≤ 12 := by
  induction ws generalizing vs with
  | nil => cases r; exact ⟨.nil, rfl, Nat.zero_le _⟩
  | cons w ws ih =>
    cases r with
    | cons r1 r2 =>
      obtain ⟨h1, h2⟩ := allL_cons h
      obtain ⟨a1, a2, a3⟩ := dt_dp S 12 _ _ h1 r1
      obtain ⟨b1, b2, b3⟩ := ih h2 r2
      refine ⟨.cons a1 b1, ?_, Nat.max_le.mpr ⟨a3, b3⟩⟩
      show (PyData.plain _ && PyData.plainAll _) = true
      rw [a2, b2]; rfl
omit R hu in
/-- the items of a list, a tuple -/
theorem seqI_inv (S : SimH K C ι m H) {w : W} {v : V} {xs : List W} (r : RepV C (TT' K H) ι w v) (h : seqI m w = .ok xs) : ∃ a vs, v = .ref a ∧ RepVs C (TT' K H) ι xs vs ∧ ((H a = some (.lst vs) ∧ ∃ n, w = .ref n ∧ m.get n = some (.lst xs)) ∨ (H a = some (.tup vs) ∧ w = .tup xs)) := by
  cases r with
  | tup ht rs => cases h; exact ⟨_, _, rfl, rs, .inr ⟨ht, rfl⟩⟩
  | ref hn =>
    rename_i n a
    have h' : exO (m.get n) (fun xs => .ok xs) (fun _ => .error (.stuck 6)) = .ok xs := h
    cases e : m.get n with
    | none => rw [e] at h'; cases h'
    | some o =>
      rw [e] at h'
      cases o with
      | lst ws =>
        cases h'
        obtain ⟨a', e1, vs, e2, rs⟩ := S.ob n _ e
        rw [hn] at e1; cases e1
        exact ⟨_, _, rfl, rs, .inl ⟨e2, n, rfl, e⟩⟩
      | _ => cases h'
  | _ => cases h
omit R hu in
/-- what is looked into -/
theorem in_inv {w1 w2 : W} {r : Bool} (e : inW Γ.lo Γ.hi m w1 w2 = .ok r) : (∃ xs, seqI m w2 = .ok xs ∧ memW Γ.lo Γ.hi m w1 xs = .ok r) ∨ ∃ n t kvs, w2 = .ref n ∧ DcAt m n t kvs ∧ keyOk t w1 = true ∧ ∃ o, findW Γ.lo Γ.hi w1 kvs = .ok o ∧ r = o.isSome := by
  cases w2 with
  | tup xs => exact .inl ⟨xs, rfl, e⟩
  | ref n =>
    have e : inO Γ.lo Γ.hi m w1 (m.get n) = .ok r := e
    have g : seqI m (.ref n) = exO (m.get n) (fun xs => .ok xs) (fun _ => .error (.stuck 6)) := rfl
    cases hm : m.get n with
    | none => rw [hm] at e; exact (er1_ne e).elim
    | some o =>
      rw [hm] at e g
      cases o with
      | lst xs => exact .inl ⟨xs, g, e⟩
      | dict t kvs =>
        refine .inr ⟨n, t, kvs, rfl, .inl hm, ?_⟩
        have e : (Bool.rec er1 (exB (findW Γ.lo Γ.hi w1 kvs) fun o => .ok o.isSome) (keyOk t w1) : EB) = .ok r := e
        cases hk : keyOk t w1 with
        | false => rw [hk] at e; exact (er1_ne e).elim
        | true =>
          rw [hk] at e
          obtain ⟨o, f1, f2⟩ := exB_ok e
          cases f2
          exact ⟨rfl, o, f1, rfl⟩
      | frd t kvs =>
        refine .inr ⟨n, t, kvs, rfl, .inr hm, ?_⟩
        have e : (Bool.rec er1 (exB (findW Γ.lo Γ.hi w1 kvs) fun o => .ok o.isSome) (keyOk t w1) : EB) = .ok r := e
        cases hk : keyOk t w1 with
        | false => rw [hk] at e; exact (er1_ne e).elim
        | true =>
          rw [hk] at e
          obtain ⟨o, f1, f2⟩ := exB_ok e
          cases f2
          exact ⟨rfl, o, f1, rfl⟩
      | _ => exact (er1_ne e).elim
  | _ => exact (er1_ne e).elim
theorem cIn_ok : OpR X (compareOp .In) (rGc X.K C (cIn Γ)) := by
  intro pins s σ H x y v u Q I rx ry ⟨ι, m, w1, w2, S, r1, r2, p⟩
  obtain ⟨r, e, pp⟩ := okB_inv p
  clear p
  rcases in_inv e with ⟨xs, e1, e2⟩ | ⟨n, t, kvs, rfl, e1, e2, q0, e4, e3⟩
  · obtain ⟨h1, h2, h3⟩ := chk_and e2 er1_ne
    have hm := memI_dat R h1 h2 h3
    obtain ⟨d1, p1, z1⟩ := dt_dp S 12 _ _ h1 r1
    obtain ⟨as, q1⟩ := Dp.reads I _ _ _ d1 rx
    obtain ⟨a, vs, rfl, rs, k⟩ := seqI_inv S r2 e1
    obtain ⟨dl, pl, zl⟩ := dt_all S h2 rs
    have fin : EP X pins σ Q (.bool ((xs.map (dat C.x m 12)).any fun y => PyData.eqv y (dat C.x m 12 w1))) s := ⟨.bl _, H, I, rfl, by rw [hm]; exact post_ok S (.bl r) pp⟩
    rcases k with ⟨k, _⟩ | ⟨k, _⟩
    · obtain ⟨bs, q2⟩ := Dp.reads I _ _ _ (.lst (.inl (.inl k)) dl) ry
      exact PySem.SeqAt.in_list_data q2 q1 pl p1 (room13 hu zl) fin
    · obtain ⟨bs, q2⟩ := Dp.reads I _ _ _ (.tup (SqT.of k) dl) ry
      exact PySem.SeqAt.in_tuple_data q2 q1 pl p1 (room13 hu zl) fin
  · cases r2 with
    | ref hn =>
      obtain ⟨o, g, d⟩ := dict_at R.lo R.hi S hn e1 e2 r1 e4
      obtain rfl : u = .ref _ := ry
      refine d_in (by omega) I g rx fun s' I' => ⟨.bl _, H, I', rfl, ?_⟩
      have ho : o.isSome = r := by
        rw [e3]
        rcases d with ⟨d1, d2⟩ | ⟨w, v, d1, d2, _⟩
        · rw [d1, d2]; rfl
        · rw [d1, d2]; rfl
      rw [ho]
      exact post_ok S (.bl r) pp
theorem cNi_ok : OpR X (compareOp .NotIn) (rGc X.K C (cNi Γ)) := by
  intro pins s σ H x y v u Q I rx ry ⟨ι, m, w1, w2, S, r1, r2, p⟩
  obtain ⟨r, e, pp⟩ := okB_inv p
  clear p
  rcases in_inv (exNot_ok e) with ⟨xs, e1, e2⟩ | ⟨n, t, kvs, rfl, e1, e2, q0, e4, e3⟩
  · obtain ⟨h1, h2, h3⟩ := chk_and e2 er1_ne
    have hm := memI_dat R h1 h2 h3
    obtain ⟨d1, p1, z1⟩ := dt_dp S 12 _ _ h1 r1
    obtain ⟨as, q1⟩ := Dp.reads I _ _ _ d1 rx
    obtain ⟨a, vs, rfl, rs, k⟩ := seqI_inv S r2 e1
    obtain ⟨dl, pl, zl⟩ := dt_all S h2 rs
    have fin : EP X pins σ Q (.bool (!(xs.map (dat C.x m 12)).any fun y => PyData.eqv y (dat C.x m 12 w1))) s := ⟨.bl _, H, I, rfl, by rw [hm, Bool.not_not]; exact post_ok S (.bl r) pp⟩
    rcases k with ⟨k, _⟩ | ⟨k, _⟩
    · obtain ⟨bs, q2⟩ := Dp.reads I _ _ _ (.lst (.inl (.inl k)) dl) ry
      exact PySem.SeqAt.notIn_list_data q2 q1 pl p1 (room13 hu zl) fin
    · obtain ⟨bs, q2⟩ := Dp.reads I _ _ _ (.tup (SqT.of k) dl) ry
      exact PySem.SeqAt.notIn_tuple_data q2 q1 pl p1 (room13 hu zl) fin
  · cases r2 with
    | ref hn =>
      obtain ⟨o, g, d⟩ := dict_at R.lo R.hi S hn e1 e2 r1 e4
      obtain rfl : u = .ref _ := ry
      refine d_notIn (by omega) I g rx fun s' I' => ⟨.bl _, H, I', rfl, ?_⟩
      have ho : (!o.isSome) = r := by
        rcases d with ⟨d1, d2⟩ | ⟨w, v, d1, d2, _⟩
        · rw [d1] at e3; rw [d2]; cases r <;> first | rfl | cases e3
        · rw [d1] at e3; rw [d2]; cases r <;> first | rfl | cases e3
      rw [ho]
      exact post_ok S (.bl r) pp
omit R hu in
def coP : Co → CmpOp
  | .eq => .Eq | .ne => .NotEq | .lt => .Lt | .le => .LtE | .gt => .Gt | .ge => .GtE | .isin => .In | .notin => .NotIn
theorem cmp_ok : ∀ o : Co, OpR X (compareOp (coP o)) (rGc X.K C (cmpW Γ o))
  | .eq => cEq_ok R hu | .ne => cNe_ok R hu | .lt => cLt_ok R hu | .le => cLe_ok R hu | .gt => cGt_ok R hu | .ge => cGe_ok R hu | .isin => cIn_ok R hu | .notin => cNi_ok R hu
end
end
end
end Jw

/-! Expressions: names, constants, operators, comparisons, and, or, not, displays, items, slices. -/
namespace Jw
open PySem PySem.Spec PyProof.Rows L2
noncomputable section

section
variable {X : Cx} {C : Cn} {K : PySem.W.Frag} {ι : Im} {H : Hp} {m : M} {Q : VK} {Γ : Pg} {g ga gb gc gd : Sl → M → RE W} {a b c e d : Expr} {pos : Pos}
/-! ### names, constants -/
theorem snd_vr {i : Nat} {x : Str} (hN : X.N[i]? = some x) (hv : Vis X.env.scope x) (hd : (x == ("__debug__" : Str)) = false) (hcd : (x == ("__classdict__" : Str)) = false) : Snd X C (.Name x pos) (fun σ m => evVr i σ m) :=
  Snd.val ⟨fun _ _ => rfl, fun _ _ => rfl, fun _ _ => rfl, fun op => by cases op <;> rfl, fun _ _ _ => rfl, fun _ _ _ _ => rfl⟩ ((pe_var hN hv hd hcd).mono fun σ H Q h => by
    obtain ⟨ι, σ', m, s, S, p⟩ := h
    obtain ⟨o, e1, p⟩ := PostE.liftO p
    obtain ⟨w, e2, p⟩ := PostE.liftO p
    subst e2
    obtain ⟨v, h1, h2⟩ := s i w e1
    exact ⟨v, h1, post_ok S h2 p⟩) fun _ => rfl
theorem snd_int {i : Int} {k} : Snd X C (.Constant (.int i) k pos) (fun _ m => .ok (.int i) m) :=
  Snd.val ⟨fun _ _ => rfl, fun _ _ => rfl, fun _ _ => rfl, fun op => by cases op <;> rfl, fun _ _ _ => rfl, fun _ _ _ _ => rfl⟩ (pe_int.mono fun σ H Q h => by
    obtain ⟨ι, σ', m, s, S, p⟩ := h
    exact post_ok S (.int i) p) fun _ => rfl
theorem snd_bl {i : Bool} {k} : Snd X C (.Constant (.bool i) k pos) (fun _ m => .ok (.bl i) m) :=
  Snd.val ⟨fun _ _ => rfl, fun _ _ => rfl, fun _ _ => rfl, fun op => by cases op <;> rfl, fun _ _ _ => rfl, fun _ _ _ _ => rfl⟩ (pe_bl.mono fun σ H Q h => by
    obtain ⟨ι, σ', m, s, S, p⟩ := h
    exact post_ok S (.bl i) p) fun _ => rfl
theorem snd_non {k} : Snd X C (.Constant .none k pos) (fun _ m => .ok .non m) :=
  Snd.val ⟨fun _ _ => rfl, fun _ _ => rfl, fun _ _ => rfl, fun op => by cases op <;> rfl, fun _ _ _ => rfl, fun _ _ _ _ => rfl⟩ (pe_non.mono fun σ H Q h => by
    obtain ⟨ι, σ', m, s, S, p⟩ := h
    exact post_ok S .non p) fun _ => rfl
theorem snd_str {x : Str} {k} (hm : ∀ op, behindInMarks op (.Constant (.str x) k pos) = false) : Snd X C (.Constant (.str x) k pos) (fun _ m => .ok (.str x) m) :=
  Snd.val ⟨fun _ _ => rfl, fun _ _ => rfl, fun _ _ => rfl, hm, fun _ _ _ => rfl, fun _ _ _ _ => rfl⟩ (pe_str.mono fun σ H Q h => by
    obtain ⟨ι, σ', m, s, S, p⟩ := h
    exact post_ok S (.str x) p) fun _ => rfl
/-- what the globals stand for -/
def GvOk (X : Cx) (C : Cn) (w : W) (u : Value) : Prop := ∃ v, RelV v u ∧ ∀ H ι, RepV C (TT' X.K H) ι w v
theorem snd_gl {x : Str} {j : Nat} {w : W} {u : Value} (hg : Gl X x) (hm : X.mg x = some u) (hw : nth Γ.gv j = some w) (r : GvOk X C w u) (hd : (x == ("__debug__" : Str)) = false) : Snd X C (.Name x pos) (fun _ m => liftO 41 (nth Γ.gv j) fun w => .ok w m) := by
  obtain ⟨v, r1, r2⟩ := r
  exact Snd.val ⟨fun _ _ => rfl, fun _ _ => rfl, fun _ _ => rfl, fun op => by cases op <;> rfl, fun _ _ _ => rfl, fun _ _ _ _ => rfl⟩ ((pe_glob hg hm r1 hd).mono fun σ H Q h => by
    obtain ⟨ι, σ', m, s, S, p⟩ := h
    obtain ⟨w', e1, p⟩ := PostE.liftO p
    rw [hw] at e1; cases e1
    exact post_ok S (r2 H ι) p) fun _ => rfl

/-! ### operators -/
theorem snd_bin (o : Bo) (ha : Snd X C a ga) (hb : Snd X C b gb) : Snd X C (.BinOp a (boP o) b pos) (fun σ m => REbind (ga σ m) fun x m1 => REbind (gb σ m1) fun y m2 => binW Γ o x y m2) :=
  Snd.val ⟨fun _ _ => rfl, fun _ _ => rfl, fun _ _ => rfl, fun op => by cases op <;> rfl, fun _ _ _ => rfl, fun _ _ _ _ => rfl⟩ ((pe_op (bin_ok (Γ := Γ) o) ha.pe hb.pe).mono fun σ H Q h => tG_op h) fun _ => rfl
theorem neg_ok : UnR X (unaryOp .USub) (rG1 X.K C fun x m => binW Γ .sub (.int 0) x m) := by
  intro pins s σ H x v Q I rx ⟨ι, m, w1, S, r1, p⟩
  have p : PostE (QV X.K C ι H Q) (liftW (subN (.int 0) w1) m) := p
  obtain ⟨w, e, p⟩ := PostE.lift p
  obtain ⟨i, j, e1, e2, r⟩ := subN_ok (C := C) e
  obtain rfl := r1.num e2
  cases e1
  refine un_neg pins s σ H _ v Q I rx ⟨j, rfl, ?_⟩
  have := post_ok S (r _ _) p
  rw [Int.zero_sub] at this
  exact this
theorem snd_neg (ha : Snd X C a ga) : Snd X C (.UnaryOp .USub a pos) (fun σ m => REbind (ga σ m) fun x m1 => binW Γ .sub (.int 0) x m1) :=
  Snd.val ⟨fun _ _ => rfl, fun _ _ => rfl, fun _ _ => rfl, fun op => by cases op <;> rfl, fun _ _ _ => rfl, fun _ _ _ _ => rfl⟩ ((pe_un (neg_ok (Γ := Γ)) ha.pe).mono fun σ H Q h => tG_un h) fun _ => rfl
theorem nomarks : ∀ op, behindInMarks op (.Compare a [] [] pos) = false := fun op => by cases op <;> rfl
/-- a comparison by its rule -/
theorem snd_cmpG {op : CmpOp} {r : R2} (ho : OpR X (compareOp op) r) (ha : Snd X C a ga) {t : TE} (hb : PE X b t) (hm : behindInMarks op b = false) (hg : ∀ σ H Q, tG X.K C g σ H Q → tOp r (tG X.K C ga) t σ H Q) : Snd X C (.Compare a [op] [b] pos) g :=
  ⟨⟨fun _ _ => rfl, fun _ _ => rfl, fun _ _ => rfl, fun op => by cases op <;> rfl, fun _ _ _ => rfl, fun _ _ _ _ => rfl⟩, (pe_cmpR ho ha.pe hb hm).mono hg, (pt_cmpR ho ha.pe hb hm).mono fun σ H Q h => hg σ H _ (tT_tG h)⟩
section
variable (R : Rng Γ C) (hu : X.A.units + 64 < cLine)
include R hu
theorem snd_cmp (o : Co) (ha : Snd X C a ga) (hb : Snd X C b gb) : Snd X C (.Compare a [coP o] [b] pos) (fun σ m => REbind (ga σ m) fun x m1 => REbind (gb σ m1) fun y m2 => okB (cmpW Γ o x y m2) m2) :=
  snd_cmpG (cmp_ok R hu o) ha hb.pe (hb.nice.mark _) fun σ H Q h => tG_op h
theorem lastMarks2 {o p : CmpOp} (hb : Nice b) (hc : Nice c) : lastMarks [o, p] [b, c] = false := by
  simp [lastMarks, hc.mark]
theorem tChain_ok {o p : Co} {σ : L2.St} (h : tG X.K C (fun σ m => REbind (ga σ m) fun x m1 => REbind (gb σ m1) fun y m2 => lift (cmpW Γ o x y m2) fun r =>
    ifB r (REbind (gc σ m2) fun z m3 => okB (cmpW Γ p y z m3) m3) (.ok (.bl false) m2)) σ H Q) : tChain (rGc X.K C (cmpW Γ o)) (rGc X.K C (cmpW Γ p)) (tG X.K C ga) (tG X.K C gb) (tG X.K C gc) σ H Q := by
  obtain ⟨ι, σ', m, s, S, pp⟩ := h
  refine tG_bind s S pp fun ι1 H1 w v m1 l1 t1 s1 S1 r1 p1 => ?_
  refine tG_bind s1 S1 p1 fun ι2 H2 u y m2 l2 t2 s2 S2 r2 p2 => ?_
  obtain ⟨r, e, p2⟩ := PostE.lift p2
  refine ⟨ι2, m2, w, u, S2, r1.mono t2 l2, r2, ?_⟩
  show PostE _ (okB (cmpW Γ o w u m2) m2)
  rw [e]
  intro ι3 H3 v3 S3 l3 t3 r3
  refine ⟨r, by cases r3; rfl, ?_⟩
  cases r with
  | false =>
    rw [if_neg (by decide)]
    exact p2 ι3 H3 _ S3 ((l1.trans l2).trans l3) ((t1.trans t2).trans t3) (.bl false)
  | true =>
    rw [if_pos rfl]
    have p3 : PostE (QV X.K C ι H Q) (REbind (gc σ' m2) fun z m3 => okB (cmpW Γ p u z m3) m3) := p2
    refine tG_bind (s2.mono t3 l3) S3 p3 fun ι4 H4 z v4 m4 l4 t4 s4 S4 r4 p4 => ?_
    exact ⟨ι4, m4, u, z, S4, r2.mono (t3.trans t4) (l3.trans l4), r4, PostE.mono (fun a m => QV.base (((l1.trans l2).trans l3).trans l4) (((t1.trans t2).trans t3).trans t4)) p4⟩
theorem snd_ch2 (o p : Co) (ha : Snd X C a ga) (hb : Snd X C b gb) (hc : Snd X C c gc) : Snd X C (.Compare a [coP o, coP p] [b, c] pos) (fun σ m => REbind (ga σ m) fun x m1 => REbind (gb σ m1) fun y m2 => lift (cmpW Γ o x y m2) fun r =>
    ifB r (REbind (gc σ m2) fun z m3 => okB (cmpW Γ p y z m3) m3) (.ok (.bl false) m2)) :=
  ⟨⟨fun _ _ => rfl, fun _ _ => rfl, fun _ _ => rfl, fun op => by cases op <;> rfl, fun _ _ _ => rfl, fun _ _ _ _ => rfl⟩, (pe_chain (cmp_ok R hu o) (cmp_ok R hu p) ha.pe hb.pe hc.pe (lastMarks2 R hu hb.nice hc.nice)).mono fun σ H Q h => tChain_ok R hu h,
    (pt_chain (cmp_ok R hu o) (cmp_ok R hu p) ha.pe hb.pe hc.pe (lastMarks2 R hu hb.nice hc.nice)).mono fun σ H Q h => tChain_ok R hu (tT_tG h)⟩
/-- a op1 b op2 c op3 d -/
theorem pe_chain3 {t : TE} {op op' op'' : CmpOp} {r r' r'' : R2} {ta tb tc td : TE} (ho : OpR X (compareOp op) r) (ho' : OpR X (compareOp op') r') (ho'' : OpR X (compareOp op'') r'') (ha : PE X a ta) (hb : PE X b tb) (hc : PE X c tc) (hd : PE X d td)
    (hm : lastMarks [op, op', op''] [b, c, d] = false) : PE X (.Compare a [op, op', op''] [b, c, d] pos) (fun σ H Q => ta σ H fun x H1 => tb σ H1 fun y H2 => r x y H2 fun z H3 => ∃ k, z = .bl k ∧
  (if k = true then tc σ H3 fun w' H4 => r' y w' H4 fun z2 H5 => ∃ k2, z2 = .bl k2 ∧ (if k2 = true then td σ H5 fun w2 H6 => r'' w' w2 H6 Q else Q (.bl false) H5) else Q (.bl false) H3)) := by
  refine ⟨fun pins s σ H Q I h => ?_⟩
  refine Compare_chain (thn (ha.run pins s σ H _ I h) fun v s1 ⟨x, H1, I1, r1, q1⟩ => chain_link (thn (hb.run pins s1 σ H1 _ I1 q1) fun u s2 ⟨y, H2, I2, r2, q2⟩ =>
    thn (ho pins s2 σ H2 x y v u _ I2 r1 r2 q2) fun d s3 ⟨z, H3, I3, r3, k, e, q3⟩ => ?_)) hm
  subst e
  cases r3
  refine wpAny_truthy_bool ?_
  cases k with
  | false => exact ite_ff ⟨.bl false, H3, I3, rfl, q3⟩
  | true =>
    refine ite_tt (chain_link (thn (hc.run pins s3 σ H3 _ I3 q3) fun w' s4 ⟨z', H4, I4, r4, q4⟩ => thn (ho' pins s4 σ H4 y z' u w' _ I4 r2 r4 q4) fun d' s5 ⟨z2, H5, I5, r5, k2, e2, q5⟩ => ?_))
    subst e2
    cases r5
    refine wpAny_truthy_bool ?_
    cases k2 with
    | false => exact ite_ff ⟨.bl false, H5, I5, rfl, q5⟩
    | true => exact ite_tt (chain_last (thn (hd.run pins s5 σ H5 _ I5 q5) fun w2 s6 ⟨z3, H6, I6, r6, q6⟩ => ho'' pins s6 σ H6 z' z3 w' w2 Q I6 r4 r6 q6))
theorem pt_chain3 {t : TE} {op op' op'' : CmpOp} {r r' r'' : R2} {ta tb tc td : TE} (ho : OpR X (compareOp op) r) (ho' : OpR X (compareOp op') r') (ho'' : OpR X (compareOp op'') r'') (ha : PE X a ta) (hb : PE X b tb) (hc : PE X c tc) (hd : PE X d td)
    (hm : lastMarks [op, op', op''] [b, c, d] = false) : PT X (.Compare a [op, op', op''] [b, c, d] pos) (tTest (fun σ H Q => ta σ H fun x H1 => tb σ H1 fun y H2 => r x y H2 fun z H3 => ∃ k, z = .bl k ∧
  (if k = true then tc σ H3 fun w' H4 => r' y w' H4 fun z2 H5 => ∃ k2, z2 = .bl k2 ∧ (if k2 = true then td σ H5 fun w2 H6 => r'' w' w2 H6 Q else Q (.bl false) H5) else Q (.bl false) H3))) := by
  refine ⟨fun pins s σ H Q I h => ?_⟩
  refine isTrue_chain (thn (ha.run pins s σ H _ I h) fun v s1 ⟨x, H1, I1, r1, q1⟩ => test_link (thn (hb.run pins s1 σ H1 _ I1 q1) fun u s2 ⟨y, H2, I2, r2, q2⟩ =>
    thn (ho pins s2 σ H2 x y v u _ I2 r1 r2 q2) fun d s3 ⟨z, H3, I3, r3, k, e, q3⟩ => ?_)) hm
  subst e
  cases r3
  refine wpAny_truthy_bool ?_
  cases k with
  | false =>
    obtain ⟨k', e', q'⟩ := q3
    cases e'
    exact ite_ff ⟨H3, I3, q'⟩
  | true =>
    refine ite_tt (test_link (thn (hc.run pins s3 σ H3 _ I3 q3) fun w' s4 ⟨z', H4, I4, r4, q4⟩ => thn (ho' pins s4 σ H4 y z' u w' _ I4 r2 r4 q4) fun d' s5 ⟨z2, H5, I5, r5, k2, e2, q5⟩ => ?_))
    subst e2
    cases r5
    refine wpAny_truthy_bool ?_
    cases k2 with
    | false =>
      obtain ⟨k', e', q'⟩ := q5
      cases e'
      exact ite_ff ⟨H5, I5, q'⟩
    | true =>
      refine ite_tt (test_last (thn (hd.run pins s5 σ H5 _ I5 q5) fun w2 s6 ⟨z3, H6, I6, r6, q6⟩ => thn (ho'' pins s6 σ H6 z' z3 w' w2 _ I6 r4 r6 q6) fun d2 s7 ⟨z4, H7, I7, r7, k3, e3, q7⟩ => ?_))
      subst e3
      cases r7
      exact wpAny_truthy_bool ⟨H7, I7, q7⟩
theorem tChain3_ok {o p q : Co} {σ : L2.St} (h : tG X.K C (fun σ m => REbind (ga σ m) fun x m1 => REbind (gb σ m1) fun y m2 => lift (cmpW Γ o x y m2) fun r =>
    ifB r (REbind (gc σ m2) fun z m3 => lift (cmpW Γ p y z m3) fun r2 => ifB r2 (REbind (gd σ m3) fun u m4 => okB (cmpW Γ q z u m4) m4) (.ok (.bl false) m3)) (.ok (.bl false) m2)) σ H Q) :
    (fun σ H Q => tG X.K C ga σ H fun x H1 => tG X.K C gb σ H1 fun y H2 => rGc X.K C (cmpW Γ o) x y H2 fun z H3 => ∃ k, z = .bl k ∧
  (if k = true then tG X.K C gc σ H3 fun w' H4 => rGc X.K C (cmpW Γ p) y w' H4 fun z2 H5 => ∃ k2, z2 = .bl k2 ∧ (if k2 = true then tG X.K C gd σ H5 fun w2 H6 => rGc X.K C (cmpW Γ q) w' w2 H6 Q else Q (.bl false) H5) else Q (.bl false) H3) : TE) σ H Q := by
  obtain ⟨ι, σ', m, s, S, pp⟩ := h
  refine tG_bind s S pp fun ι1 H1 w v m1 l1 t1 s1 S1 r1 p1 => ?_
  refine tG_bind s1 S1 p1 fun ι2 H2 u y m2 l2 t2 s2 S2 r2 p2 => ?_
  obtain ⟨r, e, p2⟩ := PostE.lift p2
  refine ⟨ι2, m2, w, u, S2, r1.mono t2 l2, r2, ?_⟩
  show PostE _ (okB (cmpW Γ o w u m2) m2)
  rw [e]
  intro ι3 H3 v3 S3 l3 t3 r3
  refine ⟨r, by cases r3; rfl, ?_⟩
  cases r with
  | false =>
    rw [if_neg (by decide)]
    exact p2 ι3 H3 _ S3 ((l1.trans l2).trans l3) ((t1.trans t2).trans t3) (.bl false)
  | true =>
    rw [if_pos rfl]
    have p3 : PostE (QV X.K C ι H Q) (REbind (gc σ' m2) fun z m3 => lift (cmpW Γ p u z m3) fun r2 => ifB r2 (REbind (gd σ' m3) fun u m4 => okB (cmpW Γ q z u m4) m4) (.ok (.bl false) m3)) := p2
    refine tG_bind (s2.mono t3 l3) S3 p3 fun ι4 H4 z v4 m4 l4 t4 s4 S4 r4 p4 => ?_
    obtain ⟨r', e', p4⟩ := PostE.lift p4
    refine ⟨ι4, m4, u, z, S4, r2.mono (t3.trans t4) (l3.trans l4), r4, ?_⟩
    show PostE _ (okB (cmpW Γ p u z m4) m4)
    rw [e']
    intro ι5 H5 v5 S5 l5 t5 r5
    refine ⟨r', by cases r5; rfl, ?_⟩
    have L := (((l1.trans l2).trans l3).trans l4).trans l5
    have T := (((t1.trans t2).trans t3).trans t4).trans t5
    cases r' with
    | false =>
      rw [if_neg (by decide)]
      exact p4 ι5 H5 _ S5 L T (.bl false)
    | true =>
      rw [if_pos rfl]
      have p5 : PostE (QV X.K C ι H Q) (REbind (gd σ' m4) fun u m5 => okB (cmpW Γ q z u m5) m5) := p4
      refine tG_bind (s4.mono t5 l5) S5 p5 fun ι6 H6 z6 v6 m6 l6 t6 s6 S6 r6 p6 => ?_
      exact ⟨ι6, m6, z, z6, S6, r4.mono (t5.trans t6) (l5.trans l6), r6, PostE.mono (fun a m => QV.base (L.trans l6) (T.trans t6)) p6⟩
theorem snd_ch3 (o p q : Co) (ha : Snd X C a ga) (hb : Snd X C b gb) (hc : Snd X C c gc) (hd : Snd X C d gd) : Snd X C (.Compare a [coP o, coP p, coP q] [b, c, d] pos) (fun σ m => REbind (ga σ m) fun x m1 => REbind (gb σ m1) fun y m2 => lift (cmpW Γ o x y m2) fun r =>
    ifB r (REbind (gc σ m2) fun z m3 => lift (cmpW Γ p y z m3) fun r2 => ifB r2 (REbind (gd σ m3) fun u m4 => okB (cmpW Γ q z u m4) m4) (.ok (.bl false) m3)) (.ok (.bl false) m2)) := by
  have hm : lastMarks [coP o, coP p, coP q] [b, c, d] = false := by simp [lastMarks, hd.nice.mark]
  exact ⟨⟨fun _ _ => rfl, fun _ _ => rfl, fun _ _ => rfl, fun op => by cases op <;> rfl, fun _ _ _ => rfl, fun _ _ _ _ => rfl⟩, (pe_chain3 R hu (t := fun _ _ _ => True) (cmp_ok R hu o) (cmp_ok R hu p) (cmp_ok R hu q) ha.pe hb.pe hc.pe hd.pe hm).mono fun σ H Q h => tChain3_ok R hu h,
    (pt_chain3 R hu (t := fun _ _ _ => True) (cmp_ok R hu o) (cmp_ok R hu p) (cmp_ok R hu q) ha.pe hb.pe hc.pe hd.pe hm).mono fun σ H Q h => tChain3_ok R hu (tT_tG h)⟩
end
theorem isNW_iff {T : Addr → List V → Prop} {w : W} {v : V} (r : RepV C T ι w v) : decide (v = .non) = isNW w := by
  cases r <;> simp [isNW]
theorem snd_isN {j pos'} (ha : Snd X C a ga) : Snd X C (.Compare a [.Is] [.Constant .none j pos'] pos) (fun σ m => REbind (ga σ m) fun x m1 => .ok (.bl (isNW x)) m1) :=
  snd_cmpG op_isN ha pe_non rfl fun σ H Q h => by
    obtain ⟨ι, σ', m, s, S, p⟩ := h
    refine tG_bind s S p fun ι1 H1 w v m1 l1 t1 s1 S1 r1 p1 => ?_
    refine ⟨rfl, ?_⟩
    rw [isNW_iff r1]
    exact post_ok S1 (.bl _) (PostE.mono (fun a m => QV.base l1 t1) p1)
theorem snd_notN {j pos'} (ha : Snd X C a ga) : Snd X C (.Compare a [.IsNot] [.Constant .none j pos'] pos) (fun σ m => REbind (ga σ m) fun x m1 => .ok (.bl (!isNW x)) m1) :=
  snd_cmpG op_notN ha pe_non rfl fun σ H Q h => by
    obtain ⟨ι, σ', m, s, S, p⟩ := h
    refine tG_bind s S p fun ι1 H1 w v m1 l1 t1 s1 S1 r1 p1 => ?_
    refine ⟨rfl, ?_⟩
    rw [isNW_iff r1]
    exact post_ok S1 (.bl _) (PostE.mono (fun a m => QV.base l1 t1) p1)
theorem snd_isB {j pos'} (k : Bool) (ha : Snd X C a ga) : Snd X C (.Compare a [.Is] [.Constant (.bool k) j pos'] pos) (fun σ m => REbind (ga σ m) fun x m1 => onB x fun c => .ok (.bl (c == k)) m1) :=
  snd_cmpG op_is_bl ha pe_bl rfl fun σ H Q h => by
    obtain ⟨ι, σ', m, s, S, p⟩ := h
    refine tG_bind s S p fun ι1 H1 w v m1 l1 t1 s1 S1 r1 p1 => ?_
    obtain ⟨c, e, p1⟩ := onB_inv p1
    subst e
    cases r1
    refine ⟨c, k, rfl, rfl, ?_⟩
    rw [← Bool.beq_eq_decide_eq]
    exact post_ok S1 (.bl _) (PostE.mono (fun a m => QV.base l1 t1) p1)
theorem snd_notB {j pos'} (k : Bool) (ha : Snd X C a ga) : Snd X C (.Compare a [.IsNot] [.Constant (.bool k) j pos'] pos) (fun σ m => REbind (ga σ m) fun x m1 => onB x fun c => .ok (.bl (!(c == k))) m1) :=
  snd_cmpG op_isnot_bl ha pe_bl rfl fun σ H Q h => by
    obtain ⟨ι, σ', m, s, S, p⟩ := h
    refine tG_bind s S p fun ι1 H1 w v m1 l1 t1 s1 S1 r1 p1 => ?_
    obtain ⟨c, e, p1⟩ := onB_inv p1
    subst e
    cases r1
    refine ⟨c, k, rfl, rfl, ?_⟩
    rw [← Bool.beq_eq_decide_eq]
    exact post_ok S1 (.bl _) (PostE.mono (fun a m => QV.base l1 t1) p1)

/-! ### not, and, or, if -/
theorem snd_no (ha : Snd X C a ga) : Snd X C (.UnaryOp .Not a pos) (fun σ m => REbind (ga σ m) fun x m1 => onB x fun b => .ok (.bl (!b)) m1) :=
  ⟨⟨fun _ _ => rfl, fun _ _ => rfl, fun _ _ => rfl, fun op => by cases op <;> rfl, fun _ _ _ => rfl, fun _ _ _ _ => rfl⟩, (pe_not ha.pe).mono fun σ H Q h => by
    obtain ⟨ι, σ', m, s, S, p⟩ := h
    refine tG_bind s S p fun ι1 H1 w v m1 l1 t1 s1 S1 r1 p1 => ?_
    obtain ⟨c, e, p1⟩ := onB_inv p1
    subst e
    cases r1
    exact ⟨c, rfl, post_ok S1 (.bl _) (PostE.mono (fun a m => QV.base l1 t1) p1)⟩,
   (pt_not ha.pt).mono fun σ H Q h => by
    obtain ⟨ι, σ', m, s, S, p⟩ := h
    refine ⟨ι, σ', m, s, S, PostE.mono (fun w m1 p => ?_) (PostE.bind p)⟩
    obtain ⟨c, e, p⟩ := onB_inv p
    obtain ⟨b, e', q⟩ := p
    cases e'
    exact ⟨c, e, q⟩⟩
/-- the tests of an 'and', of an 'or' -/
structure SndW (X : Cx) (C : Cn) (e : Expr) (g : Sl → M → RE W) : Prop where
  pe : PE X e (tG X.K C g)
  pw : PW X e (tT X.K C g)
theorem andOk (ha : Snd X C a ga) {rest : List Expr} (hb : SndW X C (.BoolOp .And (b :: rest) pos) gb) : SndW X C (.BoolOp .And (a :: b :: rest) pos) (fun σ m => REbind (ga σ m) fun w m1 => onB w fun k => Bool.rec (.ok (.bl false) m1) (gb σ m1) k) := by
  refine ⟨(pe_and ha.pe hb.pe).mono fun σ H Q h => ?_, ⟨fun whole pins s σ H Q I h => (pw_and ha.pt hb.pw).run whole pins s σ H Q I ?_⟩⟩
  · obtain ⟨ι, σ', m, s, S, p⟩ := h
    refine tG_bind s S p fun ι1 H1 w v m1 l1 t1 s1 S1 r1 p1 => ?_
    obtain ⟨c, e, p1⟩ := onB_inv p1
    subst e
    cases r1
    refine ⟨c, rfl, ?_⟩
    cases c with
    | false => rw [if_neg (by decide)]; exact p1 ι1 H1 _ S1 l1 t1 (.bl false)
    | true => rw [if_pos rfl]; exact ⟨ι1, σ', m1, s1, S1, PostE.mono (fun a m => QV.base l1 t1) p1⟩
  · obtain ⟨ι, σ', m, s, S, p⟩ := h
    refine ⟨ι, σ', m, s, S, PostE.mono (fun w m1 p => ?_) (PostE.bind p)⟩
    obtain ⟨c, e, p⟩ := onB_inv p
    refine ⟨c, e, fun ι1 H1 S1 l1 t1 => ?_⟩
    cases c with
    | false => rw [if_neg (by decide)]; obtain ⟨b', e', q⟩ := p; cases e'; exact q ι1 H1 S1 l1 t1
    | true => rw [if_pos rfl]; exact ⟨ι1, σ', m1, s.mono t1 l1, S1, PostE.mono (fun a m => QB.base l1 t1) p⟩
theorem orOk (ha : Snd X C a ga) {rest : List Expr} (hb : SndW X C (.BoolOp .Or (b :: rest) pos) gb) : SndW X C (.BoolOp .Or (a :: b :: rest) pos) (fun σ m => REbind (ga σ m) fun w m1 => onB w fun k => Bool.rec (gb σ m1) (.ok (.bl true) m1) k) := by
  refine ⟨(pe_or ha.pe hb.pe).mono fun σ H Q h => ?_, ⟨fun whole pins s σ H Q I h => (pw_or ha.pt hb.pw).run whole pins s σ H Q I ?_⟩⟩
  · obtain ⟨ι, σ', m, s, S, p⟩ := h
    refine tG_bind s S p fun ι1 H1 w v m1 l1 t1 s1 S1 r1 p1 => ?_
    obtain ⟨c, e, p1⟩ := onB_inv p1
    subst e
    cases r1
    refine ⟨c, rfl, ?_⟩
    cases c with
    | true => rw [if_pos rfl]; exact p1 ι1 H1 _ S1 l1 t1 (.bl true)
    | false => rw [if_neg (by decide)]; exact ⟨ι1, σ', m1, s1, S1, PostE.mono (fun a m => QV.base l1 t1) p1⟩
  · obtain ⟨ι, σ', m, s, S, p⟩ := h
    refine ⟨ι, σ', m, s, S, PostE.mono (fun w m1 p => ?_) (PostE.bind p)⟩
    obtain ⟨c, e, p⟩ := onB_inv p
    refine ⟨c, e, fun ι1 H1 S1 l1 t1 => ?_⟩
    cases c with
    | true => rw [if_pos rfl]; obtain ⟨b', e', q⟩ := p; cases e'; exact q ι1 H1 S1 l1 t1
    | false => rw [if_neg (by decide)]; exact ⟨ι1, σ', m1, s.mono t1 l1, S1, PostE.mono (fun a m => QB.base l1 t1) p⟩
/-- the last of an 'and': its value is a truth value and goes on as it is -/
theorem lastB {σ' : Sl} (h : PostE (QV K C ι H Q) (REbind (ga σ' m) fun w m1 => onB w fun k => Bool.rec (.ok (.bl false) m1) (.ok (.bl true) m1) k)) : PostE (QV K C ι H Q) (ga σ' m) :=
  PostE.mono (fun w m1 p => by
    obtain ⟨c, e, p⟩ := onB_inv p
    subst e
    cases c <;> exact p) (PostE.bind h)
theorem lastBB {σ' : Sl} {Q : Bool → Hp → Prop} (h : PostE (QB K C ι H Q) (REbind (ga σ' m) fun w m1 => onB w fun k => Bool.rec (.ok (.bl false) m1) (.ok (.bl true) m1) k)) : PostE (QB K C ι H Q) (ga σ' m) :=
  PostE.mono (fun w m1 p => by
    obtain ⟨c, e, p⟩ := onB_inv p
    subst e
    cases c <;> exact p) (PostE.bind h)
theorem andLast (ha : Snd X C a ga) : SndW X C (.BoolOp .And [a] pos) (fun σ m => REbind (ga σ m) fun w m1 => onB w fun k => Bool.rec (.ok (.bl false) m1) (.ok (.bl true) m1) k) :=
  ⟨(pe_one ha.pe).mono fun σ H Q ⟨ι, σ', m, s, S, p⟩ => ⟨ι, σ', m, s, S, lastB p⟩, ⟨fun whole pins s σ H Q I ⟨ι, σ', m, s', S, p⟩ => (pw_and1 ha.pt).run whole pins s σ H Q I ⟨ι, σ', m, s', S, lastBB p⟩⟩⟩
theorem orLast (ha : Snd X C a ga) : SndW X C (.BoolOp .Or [a] pos) (fun σ m => REbind (ga σ m) fun w m1 => onB w fun k => Bool.rec (.ok (.bl false) m1) (.ok (.bl true) m1) k) :=
  ⟨(pe_one ha.pe).mono fun σ H Q ⟨ι, σ', m, s, S, p⟩ => ⟨ι, σ', m, s, S, lastB p⟩, ⟨fun whole pins s σ H Q I ⟨ι, σ', m, s', S, p⟩ => (pw_or1 ha.pt).run whole pins s σ H Q I ⟨ι, σ', m, s', S, lastBB p⟩⟩⟩
theorem SndW.snd {op} {es : List Expr} (h : SndW X C (.BoolOp op es pos) g) : Snd X C (.BoolOp op es pos) g :=
  ⟨⟨fun _ _ => rfl, fun _ _ => rfl, fun _ _ => rfl, fun op => by cases op <;> rfl, fun _ _ _ => rfl, fun _ _ _ _ => rfl⟩, h.pe, h.pw.pt⟩
theorem snd_ite (hc : Snd X C c gc) (ha : Snd X C a ga) (hb : Snd X C b gb) : Snd X C (.IfExp c a b pos) (fun σ m => REbind (gc σ m) fun x m1 => onB x fun t => Bool.rec (gb σ m1) (ga σ m1) t) := by
  refine ⟨⟨fun _ _ => rfl, fun _ _ => rfl, fun _ _ => rfl, fun op => by cases op <;> rfl, fun _ _ _ => rfl, fun _ _ _ _ => rfl⟩, (pe_ifExp hc.pt ha.pe hb.pe).mono fun σ H Q h => ?_, ⟨fun pins s σ H Q I h => isTrue_IfExp ?_⟩⟩
  · obtain ⟨ι, σ', m, s, S, p⟩ := h
    refine ⟨ι, σ', m, s, S, PostE.mono (fun w m1 p => ?_) (PostE.bind p)⟩
    obtain ⟨c, e, p⟩ := onB_inv p
    refine ⟨c, e, fun ι1 H1 S1 l1 t1 => ?_⟩
    cases c with
    | true => rw [if_pos rfl]; exact ⟨ι1, σ', m1, s.mono t1 l1, S1, PostE.mono (fun a m => QV.base l1 t1) p⟩
    | false => rw [if_neg (by decide)]; exact ⟨ι1, σ', m1, s.mono t1 l1, S1, PostE.mono (fun a m => QV.base l1 t1) p⟩
  · obtain ⟨ι, σ', m, sσ, S, p⟩ := h
    refine thn (hc.pt.run pins s σ H (fun k H1 => tT X.K C (fun σ m => Bool.rec (gb σ m) (ga σ m) k) σ H1 Q) I ⟨ι, σ', m, sσ, S, PostE.mono (fun w m1 p => ?_) (PostE.bind p)⟩) fun k s1 ⟨H1, I1, q1⟩ => ?_
    · obtain ⟨c, e, p⟩ := onB_inv p
      exact ⟨c, e, fun ι1 H1 S1 l1 t1 => ⟨ι1, σ', m1, sσ.mono t1 l1, S1, PostE.mono (fun a m => QB.base l1 t1) p⟩⟩
    · cases k with
      | true => exact ha.pt.run pins s1 σ H1 Q I1 q1
      | false => exact hb.pt.run pins s1 σ H1 Q I1 q1

/-! ### argument lists, displays -/
structure SndA (X : Cx) (C : Cn) (es : List Expr) (g : Sl → M → RE (List W)) : Prop where
  pa : PA X es (tGs X.K C g)
  len : ∀ σ m (Q : List W → M → Prop), PostE Q (g σ m) → PostE (fun ws m1 => ws.length = es.length ∧ Q ws m1) (g σ m)
  nos : ∀ pos, (backTo pos (starEach es X.env)).any (·.1) = false
theorem PostE.bindI {α β : Type} {f : β → M → Prop} {k : α → M → RE β} : ∀ {r : RE α}, PostE (fun a m => PostE f (k a m)) r → PostE f (REbind r k) := fun {r} => by
  induction r with
  | ok a m => exact id
  | exc x m => exact id
  | er e => exact id
  | draw n k ih => exact fun p d hd => ih _ (p d hd)
theorem _root_.L2.PA.mono {es : List Expr} {t t' : TA} (h : PA X es t) (hm : ∀ σ H Q, t' σ H Q → t σ H Q) : PA X es t' := ⟨fun pos pins s σ H Q I q => h.run pos pins s σ H Q I (hm _ _ _ q)⟩
theorem snda_nil : SndA X C [] (fun _ m => .ok [] m) := ⟨pa_nil.mono fun σ H Q ⟨ι, σ', m, s, S, p⟩ => p ι H [] S (Le.refl ι) (Tk.refl _ H) .nil, fun σ m Q p => ⟨rfl, p⟩, fun _ => rfl⟩
theorem snda_cons {es : List Expr} {gs : Sl → M → RE (List W)} (ha : Snd X C a ga) (hr : SndA X C es gs) : SndA X C (a :: es) (fun σ m => REbind (ga σ m) fun w m1 => REbind (gs σ m1) fun ws m2 => .ok (w :: ws) m2) :=
  ⟨(pa_cons ha.pe hr.pa (ha.nice.star es X.env)).mono fun σ H Q ⟨ι, σ', m, s, S, p⟩ => tG_bind s S p fun ι1 H1 w v m1 l1 t1 s1 S1 r1 p1 =>
    tGs_bind s1 S1 p1 fun ι2 H2 ws vs m2 l2 t2 s2 S2 r2 p2 => p2 ι2 H2 _ S2 (l1.trans l2) (t1.trans t2) (.cons (r1.mono t2 l2) r2), fun σ m Q p => PostE.bindI (PostE.mono (fun w m1 p1 => PostE.bindI (PostE.mono (fun ws m2 ⟨h, q⟩ => ⟨by rw [List.length_cons, List.length_cons, h], q⟩) (hr.len σ m1 _ (PostE.bind p1)))) (PostE.bind p)), fun pos => by rw [ha.nice.star]; exact hr.nos pos⟩
theorem snd_tup {es : List Expr} {gs : Sl → M → RE (List W)} {x1} (h : SndA X C es gs) : Snd X C (.Tuple es x1 pos) (fun σ m => REbind (gs σ m) fun ws m1 => newT ws m1) :=
  Snd.val ⟨fun _ _ => rfl, fun _ _ => rfl, fun _ _ => rfl, fun op => by cases op <;> rfl, fun _ _ _ => rfl, fun _ _ _ _ => rfl⟩ ((pe_tup h.pa).mono fun σ H Q ⟨ι, σ', m, s, S, p⟩ =>
    tGs_bind s S p fun ι1 H1 ws vs m1 l1 t1 s1 S1 r1 p1 => by
      obtain ⟨z, q1, q2⟩ := post_newT S1 r1 (PostE.mono (fun a m => QV.base l1 t1) p1)
      exact ⟨z, q2⟩) fun _ => rfl
theorem snd_lst {es : List Expr} {gs : Sl → M → RE (List W)} (h : SndA X C es gs) : Snd X C (.List es pos) (fun σ m => REbind (gs σ m) fun ws m1 => newL ws m1) :=
  Snd.val ⟨fun _ _ => rfl, fun _ _ => rfl, fun _ _ => rfl, fun op => by cases op <;> rfl, fun _ _ _ => rfl, fun _ _ _ _ => rfl⟩ ((pe_lst h.pa).mono fun σ H Q ⟨ι, σ', m, s, S, p⟩ =>
    tGs_bind s S p fun ι1 H1 ws vs m1 l1 t1 s1 S1 r1 p1 => post_newL S1 r1 (PostE.mono (fun a m => QV.base l1 t1) p1)) fun _ => rfl
end
end
end Jw

/-! The evaluator's insertion sort is Python's sort. -/
namespace Jw
open PySem PySem.Spec PyProof.Rows L2 PySem.W
noncomputable section
section
variable {α : Type} {le : α → α → Bool}
/-- x behind all that are not greater -/
def ins (le : α → α → Bool) (x : α) : List α → List α
  | [] => [x]
  | y :: ys => if le y x = true then y :: ins le x ys else x :: y :: ys
theorem ins_mem {x z : α} : ∀ {ys : List α}, z ∈ ins le x ys → z = x ∨ z ∈ ys
  | [], h => .inl (by simpa [ins] using h)
  | y :: ys, h => by
    unfold ins at h
    split at h
    · rcases List.mem_cons.mp h with h | h
      · exact .inr (by rw [h]; exact List.mem_cons_self ..)
      · rcases ins_mem h with h | h
        · exact .inl h
        · exact .inr (List.mem_cons_of_mem _ h)
    · rcases List.mem_cons.mp h with h | h
      · exact .inl h
      · exact .inr h
theorem ins_sorted (h : TotalLe le) (x : α) : ∀ {ys : List α}, ys.Pairwise (fun a b => le a b = true) → (ins le x ys).Pairwise (fun a b => le a b = true)
  | [], _ => by simp [ins]
  | y :: ys, hp => by
    rw [List.pairwise_cons] at hp
    unfold ins
    split
    · rename_i hle
      rw [List.pairwise_cons]
      refine ⟨fun z hz => ?_, ins_sorted h x hp.2⟩
      rcases ins_mem hz with e | e
      · rw [e]; exact hle
      · exact hp.1 z e
    · rename_i hle
      have hxy : le x y = true := (h.total y x).elim (fun q => (hle q).elim) id
      rw [List.pairwise_cons, List.pairwise_cons]
      refine ⟨fun z hz => ?_, hp⟩
      rcases List.mem_cons.mp hz with e | e
      · rw [e]; exact hxy
      · exact h.trans _ _ _ hxy (hp.1 z e)
theorem ins_filter (h : TotalLe le) (x c : α) : ∀ {ys : List α}, ys.Pairwise (fun a b => le a b = true) → (ins le x ys).filter (sameRank le c) = ys.filter (sameRank le c) ++ [x].filter (sameRank le c)
  | [], _ => by simp [ins]
  | y :: ys, hp => by
    rw [List.pairwise_cons] at hp
    unfold ins
    split
    · rename_i hle
      simp only [List.filter_cons, ins_filter h x c hp.2]
      split <;> simp
    · rename_i hle
      have hxy : le x y = true := (h.total y x).elim (fun q => (hle q).elim) id
      by_cases hc : sameRank le c x = true
      · have none : ∀ z ∈ y :: ys, ¬ sameRank le c z = true := fun z hz q => by
          have hyz : le y z = true := by
            rcases List.mem_cons.mp hz with e | e
            · rw [e]; exact h.refl y
            · exact hp.1 z e
          unfold sameRank at hc q
          rw [Bool.and_eq_true] at hc q
          exact hle (h.trans _ _ _ (h.trans _ _ _ hyz q.2) hc.1)
        have e : (y :: ys).filter (sameRank le c) = [] := List.filter_eq_nil_iff.mpr none
        rw [List.filter_cons, e, if_pos hc, List.filter_cons, if_pos hc]; rfl
      · simp only [List.filter_cons (x := x), if_neg hc, List.filter_nil, List.append_nil]
/-- one after another -/
def insAll (le : α → α → Bool) (acc : List α) : List α → List α
  | [] => acc
  | x :: xs => insAll le (ins le x acc) xs
theorem insAll_ok (h : TotalLe le) : ∀ (l acc : List α), acc.Pairwise (fun a b => le a b = true) → (insAll le acc l).Pairwise (fun a b => le a b = true) ∧ ∀ c, (insAll le acc l).filter (sameRank le c) = acc.filter (sameRank le c) ++ l.filter (sameRank le c)
  | [], acc, hp => ⟨hp, fun c => by simp [insAll]⟩
  | x :: xs, acc, hp => by
    obtain ⟨h1, h2⟩ := insAll_ok h xs (ins le x acc) (ins_sorted h x hp)
    refine ⟨h1, fun c => ?_⟩
    show (insAll le (ins le x acc) xs).filter _ = _
    rw [h2 c, ins_filter h x c hp, List.append_assoc]
    congr 1
    rw [List.filter_cons, List.filter_cons, List.filter_nil]
    split <;> simp
theorem insAll_sort (h : TotalLe le) (l : List α) : insAll le [] l = l.mergeSort le := by
  obtain ⟨h1, h2⟩ := insAll_ok h l [] List.Pairwise.nil
  exact sort_unique h h1 fun c => by rw [h2 c]; simp
end
section
variable {C : Cn} {m : M} {Γ : Pg} {lo hi : Int}
/-- the order of the sort -/
abbrev leD (x : Int) (m : M) : W → W → Bool := dataLe false (dat x m 12)
theorem insW_ok (h1 : lo ≤ C.x) (h2 : C.x ≤ hi) {x : W} : ∀ {l r : List W}, dtN m 12 x = true → allL (dtN m 12) l = true → (∀ y ∈ l, alike (dat C.x m 12 x) (dat C.x m 12 y) = true) → insW lo hi m x l = .ok r → r = ins (leD C.x m) x l
  | [], r, _, _, _, h => by cases h; rfl
  | y :: ys, r, hx, hl, ha, h => by
    obtain ⟨hy, hys⟩ := allL_cons hl
    have h' : exIf (ltN lo hi m 12 x y) (.ok (x :: y :: ys)) (exB (insW lo hi m x ys) fun zs => .ok (y :: zs)) = .ok r := h
    have al := ha y (List.mem_cons_self ..)
    rcases exIf_ok h' with ⟨e, q⟩ | ⟨e, q⟩
    · cases q
      have e2 := ltN_dat h1 h2 12 12 x y true (Nat.le_refl _) hx hy al e
      unfold ins
      rw [if_neg]
      show ¬ (!dataLt (dat C.x m 12 x) (dat C.x m 12 y)) = true
      rw [e2]; decide
    · have e2 := ltN_dat h1 h2 12 12 x y false (Nat.le_refl _) hx hy al e
      obtain ⟨zs, q1, q2⟩ := exB_ok q
      cases q2
      have := insW_ok h1 h2 hx hys (fun z hz => ha z (List.mem_cons_of_mem _ hz)) q1
      unfold ins
      rw [if_pos, this]
      show (!dataLt (dat C.x m 12 x) (dat C.x m 12 y)) = true
      rw [e2]; rfl
theorem sortI_ok (h1 : lo ≤ C.x) (h2 : C.x ≤ hi) : ∀ {l acc r : List W}, allL (dtN m 12) l = true → allL (dtN m 12) acc = true → (∀ x ∈ l, ∀ y ∈ acc, alike (dat C.x m 12 x) (dat C.x m 12 y) = true) → (∀ x ∈ l, ∀ y ∈ l, alike (dat C.x m 12 x) (dat C.x m 12 y) = true) →
    sortI lo hi m acc l = .ok r → r = insAll (leD C.x m) acc l
  | [], acc, r, _, _, _, _, h => by cases h; rfl
  | x :: xs, acc, r, hl, hacc, ha, hb, h => by
    obtain ⟨hx, hxs⟩ := allL_cons hl
    have h' : exB (insW lo hi m x acc) (fun a => sortI lo hi m a xs) = .ok r := h
    obtain ⟨a, q1, q2⟩ := exB_ok h'
    have e := insW_ok h1 h2 hx hacc (ha x (List.mem_cons_self ..)) q1
    have mem : ∀ z ∈ a, z = x ∨ z ∈ acc := fun z hz => ins_mem (e ▸ hz)
    have hall : ∀ {l : List W}, (∀ z ∈ l, dtN m 12 z = true) → allL (dtN m 12) l = true := fun {l} => by
      induction l with
      | nil => intro _; rfl
      | cons z zs ih =>
        intro hz
        show (Bool.rec false (allL (dtN m 12) zs) (dtN m 12 z) : Bool) = true
        rw [hz z (List.mem_cons_self ..), ih fun w hw => hz w (List.mem_cons_of_mem _ hw)]
    have := sortI_ok h1 h2 hxs (hall fun z hz => by
        rcases mem z hz with e | e
        · rw [e]; exact hx
        · exact allL_ok hacc z e) (fun y hy z hz => by
        rcases mem z hz with e | e
        · rw [e]; exact hb y (List.mem_cons_of_mem _ hy) x (List.mem_cons_self ..)
        · exact ha y (List.mem_cons_of_mem _ hy) z e) (fun y hy z hz => hb y (List.mem_cons_of_mem _ hy) z (List.mem_cons_of_mem _ hz)) q2
    rw [this, e]; rfl
theorem leD_total : TotalLe (leD C.x m) := sortLe_total _ _ _
theorem sortI_sort (h1 : lo ≤ C.x) (h2 : C.x ≤ hi) {l r : List W} (hl : allL (dtN m 12) l = true) (hb : ∀ x ∈ l, ∀ y ∈ l, alike (dat C.x m 12 x) (dat C.x m 12 y) = true) (h : sortI lo hi m [] l = .ok r) : r = l.mergeSort (leD C.x m) := by
  rw [sortI_ok h1 h2 hl rfl (fun _ _ y hy => absurd hy (by simp)) hb h]
  exact insAll_sort leD_total l
end
end
end Jw

/-! Items, slices, the built-ins of one argument. -/
namespace Jw
open PySem PySem.Spec PyProof.Rows L2
noncomputable section
section
variable {X : Cx} {C : Cn} {K : PySem.W.Frag} {ι : Im} {H : Hp} {m : M} {Q : VK} {Γ : Pg} {g ga gb gc gd : Sl → M → RE W} {a b c e d : Expr} {pos : Pos}
/-! ### items -/
theorem place_ix {n : Nat} {i : Int} {j : Nat} (h : place n i = some j) : ixN n i = some j := by
  cases i with
  | ofNat k =>
    have h : (Bool.rec none (some k) (Nat.blt k n) : Option Nat) = some j := h
    cases hb : Nat.blt k n with
    | false => rw [hb] at h; cases h
    | true =>
      rw [hb] at h; cases h
      have := Nat.blt_eq.mp hb
      show ixN n (j : Int) = some j
      unfold ixN
      rw [if_pos (Int.natCast_nonneg j), if_pos (by omega)]; rfl
  | negSucc k =>
    have h : (Bool.rec none (some (n - 1 - k)) (Nat.blt k n) : Option Nat) = some j := h
    cases hb : Nat.blt k n with
    | false => rw [hb] at h; cases h
    | true =>
      rw [hb] at h; cases h
      have := Nat.blt_eq.mp hb
      unfold ixN
      rw [if_neg (by have := Int.negSucc_lt_zero k; omega), if_pos (by rw [Int.negSucc_eq]; omega)]
      congr 1
      rw [Int.negSucc_eq]; omega
theorem ixL_inv {f : W → M → Prop} {xs : List W} {w2 : W} (p : PostE f (ixL xs w2 m)) : ∃ i j w, w2 = .int i ∧ ixN xs.length i = some j ∧ xs[j]? = some w ∧ f w m := by
  unfold ixL at p
  split at p
  · obtain ⟨j, e1, p⟩ := PostE.liftO p
    obtain ⟨w, e2, p⟩ := PostE.liftO p
    rw [nth_eq] at e2
    exact ⟨_, j, w, rfl, place_ix e1, e2, p⟩
  · exact p.elim
theorem atI_of {xs : List W} {vs : List V} {T : Addr → List V → Prop} {i : Int} {j : Nat} {w : W} (r : RepVs C T ι xs vs) (h1 : ixN xs.length i = some j) (h2 : xs[j]? = some w) : ∃ v, atI vs i = some v ∧ RepV C T ι w v := by
  obtain ⟨v, e, q⟩ := r.get h2
  refine ⟨v, ?_, q⟩
  unfold atI
  rw [← r.length, h1]; exact e
theorem ix_ok (R : Rng Γ C) (hu : X.A.units + 64 < cLine) : IxR X (rG X.K C (ixW Γ)) := by
  intro value slice pins s σ H x y v u Q I rx ry ⟨ι, m, w1, w2, S, r1, r2, p⟩ hs
  cases r1 with
  | tup h1 q1 =>
    obtain ⟨i, j, w, rfl, e1, e2, p⟩ := ixL_inv p
    obtain rfl := r2.int_inv
    obtain ⟨z, e3, q⟩ := atI_of q1 e1 e2
    exact ix_tup value slice pins s σ H _ _ v u Q I rx ry ⟨_, _, i, z, rfl, rfl, SqT.of h1, e3, post_ok S q p⟩ hs
  | ref hn =>
    rename_i n a
    cases hm : m.get n with
    | none => simp only [ixW, hm] at p; exact p.elim
    | some o =>
      cases o with
      | lst xs =>
        simp only [ixW, hm] at p
        obtain ⟨i, j, w, rfl, e1, e2, p⟩ := ixL_inv p
        obtain rfl := r2.int_inv
        obtain ⟨a', f1, vs, f2, rs⟩ := S.ob n _ hm
        rw [hn] at f1; cases f1
        obtain ⟨z, e3, q⟩ := atI_of rs e1 e2
        exact ix_list value slice pins s σ H _ _ v u Q I rx ry ⟨_, _, i, z, rfl, rfl, SqL.of f2, e3, post_ok S q p⟩ hs
      | dict t kvs =>
        simp only [ixW, hm] at p
        obtain ⟨hk, p⟩ := PostE.ifF p
        obtain ⟨q0, e0, p⟩ := PostE.lift p
        obtain ⟨w, e1, p⟩ := PostE.liftO p
        obtain ⟨o, g, d⟩ := dict_at R.lo R.hi S hn (.inl hm) hk r2 e0
        rcases d with ⟨d1, d2⟩ | ⟨w', z, d1, d2, q⟩
        · rw [d1] at e1; cases e1
        · rw [d1] at e1; cases e1
          subst d2
          obtain rfl : v = .ref a := rx
          have hT := dict_typeIs I g
          have h2 : wpAny (model X.prog X.w) X.A (getItem (.ref a) u) (EP X pins σ Q) X.xe s := d_getItem (by omega) I g ry fun w' s' I' rw' => ⟨z, H, I', rw', post_ok S q p⟩
          unfold subscriptTail
          refine wpAny_bind ?_
          rw [getitemInPython_of_ne hT.not_modules]
          refine wpAny_bind (wpAny_specialOf hT PySem.F.slot_dict_getitem.lookup ?_)
          have fin : wpAny (model X.prog X.w) X.A (subscripted slice false (.ref a) u) (fun r s₃ => wpAny (model X.prog X.w) X.A (letTemporaryGo value (.ref a) r >>= fun _ => pure r) (EP X pins σ Q) X.xe s₃) X.xe s := by
            rw [hs]
            exact wpAny_operating (wpAny_mono h2 (fun r s₃ h₃ => wpAny_bind (wpAny_letTemporaryGo (wpAny_pure h₃))) fun _ _ x => x)
          first
            | exact wpAny_pure (wpAny_bind fin)
            | exact wpAny_bind (wpAny_pure (wpAny_bind fin))
            | exact wpAny_bind fin
      | frd t kvs =>
        simp only [ixW, hm] at p
        obtain ⟨hk, p⟩ := PostE.ifF p
        obtain ⟨q0, e0, p⟩ := PostE.lift p
        obtain ⟨w, e1, p⟩ := PostE.liftO p
        obtain ⟨o, g, d⟩ := dict_at R.lo R.hi S hn (.inr hm) hk r2 e0
        rcases d with ⟨d1, d2⟩ | ⟨w', z, d1, d2, q⟩
        · rw [d1] at e1; cases e1
        · rw [d1] at e1; cases e1
          subst d2
          obtain rfl : v = .ref a := rx
          have hT := dict_typeIs I g
          have h2 : wpAny (model X.prog X.w) X.A (getItem (.ref a) u) (EP X pins σ Q) X.xe s := d_getItem (by omega) I g ry fun w' s' I' rw' => ⟨z, H, I', rw', post_ok S q p⟩
          unfold subscriptTail
          refine wpAny_bind ?_
          rw [getitemInPython_of_ne hT.not_modules]
          refine wpAny_bind (wpAny_specialOf hT PySem.F.slot_dict_getitem.lookup ?_)
          have fin : wpAny (model X.prog X.w) X.A (subscripted slice false (.ref a) u) (fun r s₃ => wpAny (model X.prog X.w) X.A (letTemporaryGo value (.ref a) r >>= fun _ => pure r) (EP X pins σ Q) X.xe s₃) X.xe s := by
            rw [hs]
            exact wpAny_operating (wpAny_mono h2 (fun r s₃ h₃ => wpAny_bind (wpAny_letTemporaryGo (wpAny_pure h₃))) fun _ _ x => x)
          first
            | exact wpAny_pure (wpAny_bind fin)
            | exact wpAny_bind (wpAny_pure (wpAny_bind fin))
            | exact wpAny_bind fin
      | _ => simp only [ixW, hm] at p; exact p.elim
  | _ => exact p.elim
theorem snd_ix (R : Rng Γ C) (hu : X.A.units + 64 < cLine) (ha : Snd X C a ga) (hb : Snd X C b gb) : Snd X C (.Subscript a b pos) (fun σ m => REbind (ga σ m) fun x m1 => REbind (gb σ m1) fun y m2 => ixW Γ x y m2) :=
  Snd.val ⟨fun _ _ => rfl, fun _ _ => rfl, fun _ _ => rfl, fun op => by cases op <;> rfl, fun _ _ _ => rfl, fun _ _ _ _ => rfl⟩ ((pe_ix (ix_ok (Γ := Γ) R hu) ha.pe hb.pe hb.nice.sub).mono fun σ H Q h => tG_op h) fun _ => rfl

/-! ### slices -/
theorem sIx_eq (n : Nat) (i : Int) (d : Nat) : sIx n i = HT.sIx n d (some i) := by
  cases i with
  | ofNat j =>
    show (Bool.rec n j (Nat.ble j n) : Nat) = HT.sIx n d (some (j : Int))
    rw [HT.sIx_nat]
    cases hb : Nat.ble j n with
    | false => have h : ¬ j ≤ n := fun q => by rw [Nat.ble_eq.mpr q] at hb; cases hb
               show n = _; omega
    | true => have := Nat.le_of_ble_eq_true hb; show j = _; omega
  | negSucc j =>
    show n - 1 - j = (if Int.negSucc j < 0 then (Int.negSucc j + (n : Int)).toNat else _)
    rw [if_pos (Int.negSucc_lt_zero j), Int.negSucc_eq]; omega
theorem bnd_eq {n d : Nat} {o : Option Int} : bnd n d o = HT.sIx n d o := by
  cases o with
  | none => rfl
  | some i => exact sIx_eq n i d
def tGo (K : PySem.W.Frag) (C : Cn) (g : Sl → M → RE (Option Int)) : TO := fun σ H Q => ∃ ι σ' m, SimS K C ι H σ' σ ∧ SimH K C ι m H ∧
  PostE (fun o m1 => ∀ ι' H' , SimH K C ι' m1 H' → Le ι ι' → Tk K H H' → Q o H') (g σ' m)
structure SndO (X : Cx) (C : Cn) (e : Option Expr) (g : Sl → M → RE (Option Int)) : Prop where
  po : PO X e (tGo X.K C g)
theorem sndo_none : SndO X C none (fun _ m => .ok none m) := ⟨⟨fun pins s σ H Q I ⟨ι, σ', m, _, S, p⟩ => po_none.run pins s σ H Q I (p ι H S (Le.refl ι) (Tk.refl _ H))⟩⟩
theorem intI_inv {α : Type} {f : α → M → Prop} {w : W} {k : Int → RE α} (p : PostE f (intI w k)) : ∃ i, w = .int i ∧ PostE f (k i) := by
  unfold intI at p
  split at p
  · exact ⟨_, rfl, p⟩
  · exact p.elim
theorem sndo_some (ha : Snd X C a ga) : SndO X C (some a) (fun σ m => REbind (ga σ m) fun w m1 => intI w fun i => .ok (some i) m1) := ⟨⟨fun pins s σ H Q I ⟨ι, σ', m, sσ, S, p⟩ => (po_some ha.pe).run pins s σ H Q I (tG_bind sσ S p fun ι1 H1 w v m1 l1 t1 s1 S1 r1 p1 => by
  obtain ⟨i, rfl, p1⟩ := intI_inv p1
  obtain rfl := r1.int_inv
  exact ⟨i, rfl, p1 ι1 H1 S1 l1 t1⟩)⟩⟩
def rGs (K : PySem.W.Frag) (C : Cn) : V → Option Int → Option Int → Hp → VK → Prop := fun x lo hi H Q => ∃ ι m w, SimH K C ι m H ∧ RepV C (TT' K H) ι w x ∧ PostE (QV K C ι H Q) (slW w lo hi m)
theorem RepVs.cut {T : Addr → List V → Prop} {xs : List W} {vs : List V} (r : RepVs C T ι xs vs) (lo hi : Option Int) : RepVs C T ι (cut xs (bnd xs.length 0 lo) (bnd xs.length xs.length hi)) (cutV vs lo hi) := by
  unfold Jw.cut cutV
  rw [bnd_eq, bnd_eq, ← r.length]
  exact (r.drop _).take _
theorem sl_ok : SlR X (rGs X.K C) := by
  intro pins s σ H x v vl vu lo hi sl Q I rx hs pl pu ⟨ι, m, w, S, r, p⟩
  cases r with
  | tup h1 q1 =>
    rename_i ws vs a
    have p : PostE (QV X.K C ι H Q) (newT (cut ws (bnd ws.length 0 lo) (bnd ws.length ws.length hi)) m) := p
    obtain ⟨_, h2, h3⟩ := post_newT (Q := Q) S (q1.cut lo hi) p
    refine sl_tupA pins s σ H _ v vl vu lo hi sl Q I rx hs pl pu ⟨a, vs, rfl, SqT.of h1, fun hw => h2 a ?_, fun hw q hq => h3 q hq⟩
    have e : cutV vs lo hi = vs := by unfold cutV; rw [hw.1, hw.2]; simp
    rw [e]
    exact h1
  | ref hn =>
    rename_i n a
    have p : PostE (QV X.K C ι H Q) (getL m (.ref n) fun _ xs => newL (cut xs (bnd xs.length 0 lo) (bnd xs.length xs.length hi)) m) := p
    obtain ⟨n', xs, z, hm, p⟩ := getL_inv p
    cases z
    obtain ⟨a', k1, vs, k2, rs⟩ := S.ob n _ hm
    rw [hn] at k1; cases k1
    exact sl_list pins s σ H _ v vl vu lo hi sl Q I rx hs pl pu ⟨a, vs, rfl, SqL.of k2, (post_newL S (rs.cut lo hi) p).2⟩
  | _ => exact p.elim
theorem snd_sl {lo hi : Option Expr} {gl gh : Sl → M → RE (Option Int)} {p2} (ha : Snd X C a ga) (hl : SndO X C lo gl) (hh : SndO X C hi gh) : Snd X C (.Subscript a (.Slice lo hi none p2) pos) (fun σ m => REbind (ga σ m) fun x m1 => REbind (gl σ m1) fun y m2 => REbind (gh σ m2) fun z m3 => slW x y z m3) :=
  Snd.val ⟨fun _ _ => rfl, fun _ _ => rfl, fun _ _ => rfl, fun op => by cases op <;> rfl, fun _ _ _ => rfl, fun _ _ _ _ => rfl⟩ ((pe_slice (sl_ok (C := C)) ha.pe hl.po hh.po).mono fun σ H Q ⟨ι, σ', m, s, S, p⟩ => by
    show tSl _ _ _ _ σ H Q
    refine tG_bind s S p fun ι1 H1 w v m1 l1 t1 s1 S1 r1 p1 => ?_
    refine ⟨ι1, σ', m1, s1, S1, PostE.mono (fun o m2 p2 ι2 H2 S2 l2 t2 => ?_) (PostE.bind p1)⟩
    refine ⟨ι2, σ', m2, s1.mono t2 l2, S2, PostE.mono (fun o' m3 p3 ι3 H3 S3 l3 t3 => ?_) (PostE.bind p2)⟩
    exact ⟨ι3, m3, w, S3, (r1.mono t2 l2).mono t3 l3, PostE.mono (fun a m => QV.base ((l1.trans l2).trans l3) ((t1.trans t2).trans t3)) p3⟩) fun _ => rfl

/-! ### built-ins of one argument -/
def rB (K : PySem.W.Frag) (C : Cn) (g : W → M → RE W) : List V → Hp → VK → Prop := fun xs H Q => ∃ ι m w x, xs = [x] ∧ SimH K C ι m H ∧ RepV C (TT' K H) ι w x ∧ PostE (QV K C ι H Q) (g w m)
theorem rB_of {f : Value} {g : W → M → RE W} (h : ∀ pins s σ H x u Q ι m w, Inv X pins σ H s → RelV x u → SimH X.K C ι m H → RepV C (TT' X.K H) ι w x → PostE (QV X.K C ι H Q) (g w m) → wpAny (model X.prog X.w) X.A (call f [u]) (EP X pins σ Q) X.xe s) : CallR X f (rB X.K C g) := by
  intro pins s σ H xs us Q I r ⟨ι, m, w, x, e, S, q, p⟩
  subst e
  obtain ⟨u, rfl, rx⟩ := vals1 r
  exact h pins s σ H x u Q ι m w I rx S q p
theorem tCB_ok {f : W → M → RE W} {σ : L2.St} (h : tG X.K C (fun σ m => REbind (ga σ m) fun x m1 => f x m1) σ H Q) : tCB (rB X.K C f) (tCons (tG X.K C ga) tNil) σ H Q := by
  obtain ⟨ι, σ', m, s, S, p⟩ := h
  refine tG_bind s S p fun ι1 H1 w v m1 l1 t1 s1 S1 r1 p1 => ?_
  exact ⟨ι1, m1, w, v, rfl, S1, r1, PostE.mono (fun a m => QV.base l1 t1) p1⟩
theorem snd_callB {x : Str} {id : String} {f : W → M → RE W} {p : Pos} (hc : CallR X (.builtin id) (rB X.K C f)) (hg : Gl X x) (hm : X.mg x = none) (hv : bootBuiltins x = some (.builtin id)) (hn : x ≠ "__name__") (hdb : (x == ("__debug__" : Str)) = false) (ha : Snd X C a ga) :
    Snd X C (.Call (.Name x p) [a] [] pos) (fun σ m => REbind (ga σ m) fun x m1 => f x m1) :=
  Snd.val ⟨fun _ _ => rfl, fun _ _ => rfl, fun _ _ => rfl, fun op => by cases op <;> rfl, fun _ _ _ => rfl, fun _ _ _ _ => rfl⟩ ((pe_callB hc hg hm hv (pa_cons ha.pe pa_nil (ha.nice.star _ _)) hn hdb (ha.nice.star _ _) rfl).mono fun σ H Q h => tCB_ok h) fun _ => rfl
theorem snd_callTy {x : Str} {T : String} {f : W → M → RE W} {p : Pos} (hc : CallR X (.type T) (rB X.K C f)) (hg : Gl X x) (hm : X.mg x = none) (hv : bootBuiltins x = some (.type T)) (hn : x ≠ "__name__") (hdb : (x == ("__debug__" : Str)) = false) (ha : Snd X C a ga) :
    Snd X C (.Call (.Name x p) [a] [] pos) (fun σ m => REbind (ga σ m) fun x m1 => f x m1) :=
  Snd.val ⟨fun _ _ => rfl, fun _ _ => rfl, fun _ _ => rfl, fun op => by cases op <;> rfl, fun _ _ _ => rfl, fun _ _ _ _ => rfl⟩ ((pe_callTy hc hg hm hv (pa_cons ha.pe pa_nil (ha.nice.star _ _)) hn hdb (ha.nice.star _ _) rfl).mono fun σ H Q h => tCB_ok h) fun _ => rfl
end
end
end Jw

/-! Built-ins of one argument; isinstance. -/
namespace Jw
open PySem PySem.Spec PyProof.Rows L2
noncomputable section
section
variable {X : Cx} {C : Cn} {K : PySem.W.Frag} {ι : Im} {H : Hp} {m : M} {Q : VK} {Γ : Pg} {g ga gb gc gd : Sl → M → RE W} {a b c e d : Expr} {pos : Pos}
theorem lst_at (S : SimH K C ι m H) {n : Ad} {a : Addr} {xs : List W} (hn : ι n = some a) (e : m.get n = some (.lst xs)) : ∃ vs, H a = some (.lst vs) ∧ RepVs C (TT' K H) ι xs vs := by
  obtain ⟨a', f1, vs, f2, rs⟩ := S.ob n _ e
  rw [hn] at f1; cases f1
  exact ⟨vs, f2, rs⟩
/-- len -/
theorem len_ok : CallR X (.builtin "len") (rB X.K C (qLen Γ)) := rB_of fun pins s σ H x u Q ι m w I rx S r p => by
  cases r with
  | tup h1 q1 =>
    refine call_len pins s σ H _ _ Q I (.cons rx .nil) ⟨_, _, rfl, .inr ⟨_, SqT.of h1, rfl⟩, ?_⟩
    rw [← q1.length]
    exact post_ok S (.int _) p
  | str y =>
    have p : PostE (QV X.K C ι H Q) (okL y.cps.toList (.ok (.int (Int.ofNat y.length)) m)) := p
    obtain ⟨h1, p⟩ := PostE.okL p
    refine call_len pins s σ H _ _ Q I (.cons rx .nil) ⟨_, _, rfl, ⟨?_, rfl⟩, post_ok S (.int _) p⟩
    have := size_of h1
    rw [Array.length_toList] at this
    exact this
  | ref hn =>
    rename_i n a
    cases hm : m.get n with
    | none => simp only [qLen, hm] at p; exact p.elim
    | some o =>
      cases o with
      | lst xs =>
        simp only [qLen, hm] at p
        obtain ⟨vs, f2, rs⟩ := lst_at S hn hm
        refine call_len pins s σ H _ _ Q I (.cons rx .nil) ⟨_, _, rfl, .inl ⟨_, SqL.of f2, rfl⟩, ?_⟩
        rw [← rs.length]
        exact post_ok S (.int _) p
      | dict t kvs =>
        simp only [qLen, hm] at p
        obtain ⟨a', e1, e2⟩ := S.ob n _ hm
        rw [hn] at e1; cases e1
        cases t with
        | false =>
          obtain ⟨ks, h1, h2⟩ := e2
          refine call_lenD pins s σ H _ _ Q I (.cons rx .nil) ⟨_, _, rfl, h1, ?_⟩
          rw [← h2.length]
          exact post_ok S (.int _) p
        | true =>
          obtain ⟨ks, h1, h2⟩ := e2
          refine call_len_dT pins s σ H _ _ Q I (.cons rx .nil) ⟨_, _, rfl, h1, ?_⟩
          rw [← h2.length]
          exact post_ok S (.int _) p
      | _ => simp only [qLen, hm] at p; exact p.elim
  | _ => exact p.elim
theorem allB_ok : ∀ {xs : List W} {b : Bool}, allB xs = .ok b → ∃ bs : List Bool, xs = bs.map W.bl ∧ b = bs.all id
  | [], b, h => by cases h; exact ⟨[], rfl, rfl⟩
  | x :: xs, b, h => by
    unfold allB at h
    split at h
    · obtain ⟨c, e1, e2⟩ := exB_ok h
      cases e2
      obtain ⟨bs, f1, f2⟩ := allB_ok e1
      exact ⟨_ :: bs, by rw [f1]; rfl, by rw [f2]; rfl⟩
    · cases h
theorem anyB_ok : ∀ {xs : List W} {b : Bool}, anyB xs = .ok b → ∃ bs : List Bool, xs = bs.map W.bl ∧ b = bs.any id
  | [], b, h => by cases h; exact ⟨[], rfl, rfl⟩
  | x :: xs, b, h => by
    unfold anyB at h
    split at h
    · obtain ⟨c, e1, e2⟩ := exB_ok h
      cases e2
      obtain ⟨bs, f1, f2⟩ := anyB_ok e1
      exact ⟨_ :: bs, by rw [f1]; rfl, by rw [f2]; rfl⟩
    · cases h
theorem dp_bools {T : Addr → List V → Prop} : ∀ {bs : List Bool} {vs : List V}, RepVs C T ι (bs.map W.bl) vs → DpAll K H vs (bs.map PyData.bool)
  | [], _, .nil => .nil
  | b :: bs, _, .cons h r => by cases h; exact .cons (.bl b) (dp_bools r)
theorem plain_bools : ∀ bs : List Bool, PyData.plainAll (bs.map PyData.bool) = true
  | [] => rfl
  | b :: bs => by show (PyData.plain (.bool b) && PyData.plainAll (bs.map PyData.bool)) = true; rw [plain_bools bs]; rfl
theorem fits_bools (bs : List Bool) : ∀ x ∈ bs.map PyData.bool, x.fits63 := fun x hx => by
  obtain ⟨b, _, rfl⟩ := List.mem_map.mp hx
  exact True.intro
theorem all_bools (bs : List Bool) : (bs.map PyData.bool).all PyData.truthy = bs.all id := by
  rw [List.all_map]; rfl
theorem any_bools (bs : List Bool) : (bs.map PyData.bool).any PyData.truthy = bs.any id := by
  rw [List.any_map]; rfl
theorem all_ok (hc : X.calm = true) : CallR X (.builtin "all") (rB X.K C (qAll Γ)) := rB_of fun pins s σ H x u Q ι m w I rx S r p => by
  obtain ⟨xs, e, p⟩ := PostE.lift p
  obtain ⟨b, e2, p⟩ := okB_inv p
  obtain ⟨bs, rfl, rfl⟩ := allB_ok e2
  obtain ⟨a, vs, rfl, rs, k⟩ := seqI_inv S r e
  have dl := dp_bools (K := X.K) (H := H) rs
  obtain rfl : u = .ref a := rx
  rcases k with ⟨k, _⟩ | ⟨k, _⟩
  · obtain ⟨its, rv, pl, hz⟩ := I.list (SqL.of k)
    obtain ⟨as, q⟩ := Dp.readsAll I _ _ _ dl rv
    refine PySem.W.all_list_data (I.ok.hd hc) pl.isList (by simpa using q) (plain_bools bs) (fits_bools bs) fun h' tk hk => ⟨.bl _, H, I.kept hk, rfl, ?_⟩
    rw [all_bools]
    exact post_ok S (.bl _) p
  · obtain ⟨its, rv, pl, hz⟩ := I.tuple (SqT.of k)
    obtain ⟨as, q⟩ := Dp.readsAll I _ _ _ dl rv
    refine PySem.W.all_tuple_data (I.ok.hd hc) (show s.heap.IsTuple a its.toArray from pl) (by simpa using q) (plain_bools bs) (fits_bools bs) fun h' tk hk => ⟨.bl _, H, I.kept hk, rfl, ?_⟩
    rw [all_bools]
    exact post_ok S (.bl _) p
theorem any_ok (hc : X.calm = true) : CallR X (.builtin "any") (rB X.K C (qAny Γ)) := rB_of fun pins s σ H x u Q ι m w I rx S r p => by
  obtain ⟨xs, e, p⟩ := PostE.lift p
  obtain ⟨b, e2, p⟩ := okB_inv p
  obtain ⟨bs, rfl, rfl⟩ := anyB_ok e2
  obtain ⟨a, vs, rfl, rs, k⟩ := seqI_inv S r e
  have dl := dp_bools (K := X.K) (H := H) rs
  obtain rfl : u = .ref a := rx
  rcases k with ⟨k, _⟩ | ⟨k, _⟩
  · obtain ⟨its, rv, pl, hz⟩ := I.list (SqL.of k)
    obtain ⟨as, q⟩ := Dp.readsAll I _ _ _ dl rv
    refine PySem.W.any_list_data (I.ok.hd hc) pl.isList (by simpa using q) (plain_bools bs) (fits_bools bs) fun h' tk hk => ⟨.bl _, H, I.kept hk, rfl, ?_⟩
    rw [any_bools]
    exact post_ok S (.bl _) p
  · obtain ⟨its, rv, pl, hz⟩ := I.tuple (SqT.of k)
    obtain ⟨as, q⟩ := Dp.readsAll I _ _ _ dl rv
    refine PySem.W.any_tuple_data (I.ok.hd hc) (show s.heap.IsTuple a its.toArray from pl) (by simpa using q) (plain_bools bs) (fits_bools bs) fun h' tk hk => ⟨.bl _, H, I.kept hk, rfl, ?_⟩
    rw [any_bools]
    exact post_ok S (.bl _) p
theorem num_of {T : Addr → List V → Prop} {w : W} {v : V} {n : Int} (r : RepV C T ι w v) (h : v = .int n) : numV C.x w = some n := by
  cases r with
  | int i => cases h; rfl
  | aff c k => have := V.int.inj h; subst this; rfl
  | _ => cases h
theorem sumW_ok {T : Addr → List V → Prop} : ∀ {xs : List W} {vs : List V} {acc w : W} {n : Int}, numV C.x acc = some n → RepVs C T ι xs vs → sumW acc xs = .ok w → ∃ ns : List Int, vs = ns.map V.int ∧ numV C.x w = some (n + ns.sum)
  | [], _, acc, w, n, h, .nil, e => by cases e; exact ⟨[], rfl, by rw [h]; simp⟩
  | x :: xs, _, acc, w, n, h, .cons r rs, e => by
    have e : exB (addN acc x) (fun a => sumW a xs) = .ok w := e
    obtain ⟨a, e1, e2⟩ := exB_ok e
    obtain ⟨i, j, f1, f2, f3⟩ := addN_ok (C := C) e1
    rw [h] at f1; cases f1
    have ha : numV C.x a = some (n + j) := by
      exact num_of (f3 (fun _ _ => False) (fun _ => none)) rfl
    obtain ⟨ns, g1, g2⟩ := sumW_ok ha rs e2
    refine ⟨j :: ns, by rw [g1, r.num f2]; rfl, ?_⟩
    rw [g2, List.sum_cons, Int.add_assoc]
theorem num_rep {T : Addr → List V → Prop} {w : W} {n : Int} (h : numV C.x w = some n) : RepV C T ι w (.int n) := by
  cases w <;> simp only [numV, Option.some.injEq, reduceCtorEq] at h
  · subst h; exact .int _
  · subst h; exact .aff _ _
theorem preSum_take (ns : List Int) : ∀ k, k ≤ ns.length → PySem.preSum (fun i => ns.getD i 0) k = (ns.take k).sum
  | 0, _ => rfl
  | k + 1, h => by
    show PySem.preSum (fun i => ns.getD i 0) k + ns.getD k 0 = _
    rw [preSum_take ns k (by omega), List.take_succ, List.sum_append, List.getD_eq_getElem?_getD, List.getElem?_eq_getElem (by omega)]
    simp
/-- sum(t) of a tuple of ints -/
theorem sum_tup {prog : Program} {w : World} {A : Around} {E : Value → Shared → Prop} {s : Shared} {a : Addr} {its : List Value} {ns : List Int} {Q : Value → Shared → Prop} (hh : A.handled = none) (ht : IsTup s.heap a its.toArray) (hi : IntsAre its ns)
    (h : ∀ h' tk t', (∀ b o, s.heap.get? b = some o → h'.get? b = some o) → Q (.int ns.sum t') { s with heap := h', toks := tk }) : wpAny (model prog w) A (call (.builtin "sum") [.ref a]) Q E s := by
  have hlt : a < s.heap.objs.size := by obtain ⟨o, ho, _⟩ := ht; exact Heap.lt_size ho
  have hlen := IntsAre.length hi
  refine PySem.call_sum_walkG (wpAny_pyIter_tuple (show s.heap.IsTuple a its.toArray from ht) ⟨s.heap.objs.size, _, _, _, _, _, fun i => ns.getD i 0, rfl, Walks.tuple (A := A.in1) hh s.heap.objs.size a (Nat.ne_of_lt hlt) its.toArray, ⟨⟨_, Heap.get?_push_size _ rfl, rfl, rfl⟩, IsTup.push ht _⟩, fun b hb => ?_, fun i v hv => ?_, fun h' tk t' hk => ?_⟩)
  · show b < (s.heap.push _).objs.size
    rw [Heap.size_push]
    rcases List.mem_cons.mp hb with rfl | hb
    · exact Nat.lt_succ_self _
    · rw [List.mem_singleton.mp hb]; exact Nat.lt_succ_of_lt hlt
  · obtain ⟨t, e⟩ := IntsAre.int_at hi i v (by simpa using hv)
    exact ⟨t, e⟩
  · have q := h h' tk t' fun b o e => hk b o (fun z => by rw [List.mem_singleton.mp z] at e; exact Nat.lt_irrefl _ (Heap.lt_size e)) (Heap.get?_push_of_some _ e)
    rw [preSum_take ns _ (by rw [List.size_toArray]; omega), List.take_of_length_le (by rw [List.size_toArray]; omega)]
    exact q
theorem sum_ok (hc : X.calm = true) : CallR X (.builtin "sum") (rB X.K C (qSum Γ)) := rB_of fun pins s σ H x u Q ι m w I rx S r p => by
  obtain ⟨xs, e0, p⟩ := PostE.lift p
  obtain ⟨w, e, p⟩ := PostE.lift p
  obtain ⟨a, vs, rfl, rs, k⟩ := seqI_inv S r e0
  obtain ⟨ns, rfl, g⟩ := sumW_ok (C := C) (n := 0) rfl rs e
  rw [Int.zero_add] at g
  rcases k with ⟨f2, _⟩ | ⟨f2, _⟩
  · exact cr_sum hc pins s σ H _ _ Q I (.cons rx .nil) ⟨_, ns, rfl, SqL.of f2, post_ok S (num_rep g) p⟩
  · obtain rfl : u = .ref a := rx
    obtain ⟨its, rv, ht, _⟩ := I.tuple (SqT.of f2)
    exact sum_tup (I.ok.hd hc) ht rv.ints fun h' tk t' hk => ⟨.int _, H, I.kept hk, ⟨_, rfl⟩, post_ok S (num_rep g) p⟩
theorem reps_zip {T : Addr → List V → Prop} : ∀ {ws : List W} {vs : List V}, RepVs C T ι ws vs → ∀ p ∈ ws.zip vs, RepV C T ι p.1 p.2
  | _, _, .nil, p, h => by simp at h
  | _, _, .cons a b, p, h => by
    rw [List.zip_cons_cons] at h
    rcases List.mem_cons.mp h with e | e
    · rw [e]; exact a
    · exact reps_zip b p e
theorem reps_of {T : Addr → List V → Prop} : ∀ {l : List (W × V)}, (∀ p ∈ l, RepV C T ι p.1 p.2) → RepVs C T ι (l.map (·.1)) (l.map (·.2))
  | [], _ => .nil
  | p :: l, h => .cons (h p (List.mem_cons_self ..)) (reps_of fun q hq => h q (List.mem_cons_of_mem _ hq))
theorem vals_each : ∀ {vs : List V} {us : List Value} {ws : List W}, ws.length = vs.length → Vals vs us → PySem.W.EachIs (fun u (p : W × V) => RelV p.2 u) us (ws.zip vs)
  | [], _, ws, h, .nil => by cases ws <;> exact .nil
  | v :: vs, _, w :: ws, h, .cons r t => by rw [List.zip_cons_cons]; exact .cons r (vals_each (by simpa using h) t)
theorem each_vals : ∀ {l : List (W × V)} {us : List Value}, PySem.W.EachIs (fun u (p : W × V) => RelV p.2 u) us l → Vals (l.map (·.2)) us
  | _, _, .nil => .nil
  | _, _, .cons h t => .cons h (each_vals t)
theorem srt_sortable {l : List W} (h : srtOk m l = true) (hd : allL (dtN m 12) l = true) (hk : ∀ x ∈ l, dat C.x m 12 x ≠ .none) (ha : ∀ x ∈ l, ∀ y ∈ l, PySem.W.alike (dat C.x m 12 x) (dat C.x m 12 y) = true) : PySem.W.Sortable (l.map (dat C.x m 12)) := by
  cases l with
  | nil => exact .inl fun d hd => by simp at hd
  | cons x r =>
    have key : ∀ y ∈ x :: r, kd m y = kdD (dat C.x m 12 y) := fun y hy => kd_dat (allL_ok hd y hy)
    have h : (Bool.rec (allL (fun y => !(Nat.beq (kd m y) 4)) (x :: r)) (allL (fun y => Nat.beq (kd m y) 4 && !(its m y).isEmpty) (x :: r)) (Nat.beq (kd m x) 4) : Bool) = true := h
    cases h4 : Nat.beq (kd m x) 4 with
    | true =>
      rw [h4] at h
      refine .inl fun d hdm => ?_
      obtain ⟨y, hy, rfl⟩ := List.mem_map.mp hdm
      have hy2 := allL_ok h y hy
      rw [Bool.and_eq_true] at hy2
      have e4 := Nat.eq_of_beq_eq_true hy2.1
      rw [key y hy] at e4
      obtain ⟨_, t | t | t⟩ := dt_its (C := C) (g := 11) (allL_ok hd y hy)
      · rw [t]
        have ne := hy2.2
        cases e : its m y with
        | nil => rw [e] at ne; cases ne
        | cons z zs => exact ⟨_, _, rfl⟩
      · rw [t] at e4; cases e4
      · rw [← key y hy] at e4; omega
    | false =>
      rw [h4] at h
      refine .inr fun d hdm => ?_
      obtain ⟨y, hy, rfl⟩ := List.mem_map.mp hdm
      have hy2 := allL_ok h y hy
      refine ⟨hk y hy, fun zs e => ?_⟩
      have e4 := key y hy
      rw [e] at e4
      rw [show kd m y = 4 from e4] at hy2
      cases hy2
theorem int_keys {T : Addr → List V → Prop} : ∀ {l : List (W × W)} {r : List (Key × V)}, RepK C T ι (KR C) l r → allL (fun p => isIntW p.1) l = true → ∃ ks : List Int, l.map (·.1) = ks.map W.int ∧ r.map (·.1) = ks.map Sum.inl
  | _, _, .nil, _ => ⟨[], rfl, rfl⟩
  | _, _, .cons (k := k) e a b, h => by
    obtain ⟨h1, h2⟩ := allL_cons h
    obtain ⟨ks, e1, e2⟩ := int_keys b h2
    cases e with
    | int i => exact ⟨i :: ks, by rw [List.map_cons, List.map_cons, e1], by rw [List.map_cons, List.map_cons, e2]⟩
    | aff _ _ => cases h1
    | str x => cases h1
theorem reps_ints {T : Addr → List V → Prop} : ∀ {ks : List Int}, RepVs C T ι (ks.map W.int) (ks.map V.int)
  | [] => .nil
  | k :: ks => .cons (.int k) reps_ints
theorem dat_int {g : Nat} (i : Int) : dat C.x m (g + 1) (.int i) = .int i := rfl
theorem sorted_list (R : Rng Γ C) (hu : X.A.units + 64 < cLine) {pins : List (Addr × Obj)} {s : Shared} {σ : L2.St} {H : Hp} {x : V} {u : Value} {Q : VK} {ι : Im} {m : M} {n : Ad} {xs : List W} (I : L2.Inv X pins σ H s) (rx : RelV x u) (S : SimH X.K C ι m H) (r : RepV C (TT' X.K H) ι (.ref n) x) (hm : m.get n = some (.lst xs))
    (p : PostE (QV X.K C ι H Q) (lift (sortW Γ.lo Γ.hi m xs) fun ys => newL ys m)) : wpAny (model X.prog X.w) X.A (call (.builtin "sorted") [u]) (EP X pins σ Q) X.xe s := by
  obtain ⟨ys, e, p⟩ := PostE.lift p
  have e : (Bool.rec (.error (.stuck 2)) (sortI Γ.lo Γ.hi m [] xs) (cmpOk m xs && srtOk m xs) : Except Er (List W)) = .ok ys := e
  cases hb : (cmpOk m xs && srtOk m xs) with
  | false => rw [hb] at e; cases e
  | true =>
    rw [hb] at e
    rw [Bool.and_eq_true] at hb
    obtain ⟨d, al, nn⟩ := cmpOk_ok (C := C) hb.1
    have es := sortI_sort R.lo R.hi d al e
    cases r with
    | ref hn =>
      rename_i a
      obtain ⟨vs, f2, rs⟩ := lst_at S hn hm
      obtain ⟨dl, pl, zl⟩ := dt_all S d rs
      obtain ⟨its, rv, ho, hz⟩ := I.list (SqL.of f2)
      obtain rfl : u = .ref a := rx
      have hlen := rs.length
      have each := vals_each hlen rv
      have rdz : ∀ p ∈ xs.zip vs, RepV C (TT' X.K H) ι p.1 p.2 := reps_zip rs
      have fst : (xs.zip vs).map (·.1) = xs := List.map_fst_zip (by omega)
      have snd : (xs.zip vs).map (·.2) = vs := List.map_snd_zip (by omega)
      have menc : (xs.zip vs).map (fun p => dat C.x m 12 p.1) = xs.map (dat C.x m 12) := by rw [← congrArg (List.map (dat C.x m 12)) fst, List.map_map]; rfl
      obtain ⟨as, rds⟩ := Dp.readsAll I _ _ _ dl rv
      have each2 : PySem.W.EachIs (fun v (b : W × V) => ∃ as, Reads s.heap v (dat C.x m 12 b.1) as) its (xs.zip vs) := PySem.W.readsAll_each _ (by rw [menc]; exact rds)
      have al2 : PySem.W.AllAlike ((xs.zip vs).map fun p => dat C.x m 12 p.1) := by
        rw [menc]
        intro d hd d' hd'
        obtain ⟨y, hy, rfl⟩ := List.mem_map.mp hd
        obtain ⟨y', hy', rfl⟩ := List.mem_map.mp hd'
        exact al y hy y' hy'
      have so : PySem.W.Sortable ((xs.zip vs).map fun p => dat C.x m 12 p.1) := by rw [menc]; exact srt_sortable hb.2 d nn al
      have hlen2 : (xs.zip vs).length ≤ sizeLine := by rw [List.length_zip]; omega
      refine PySem.W.sorted_data (R := fun u (p : W × V) => RelV p.2 u) (by simpa using ho.isList) each each2 al2 so hlen2 (fun b hb2 => ?_) fun out hol hout => ?_
      · have : (dat C.x m 12 b.1).depth ≤ 12 := (dt_dp S 12 _ _ (allL_ok d b.1 (by rw [← fst]; exact List.mem_map_of_mem hb2)) (rdz b hb2)).2.2
        omega
      · have perm := List.mergeSort_perm (xs.zip vs) (PySem.W.dataLe false fun b : W × V => dat C.x m 12 b.1)
        have q := each_vals hout
        have rr := reps_of (C := C) (ι := ι) (T := TT' X.K H) (l := (xs.zip vs).mergeSort (PySem.W.dataLe false fun b : W × V => dat C.x m 12 b.1)) fun p hp => rdz p (perm.mem_iff.mp hp)
        have ey : ((xs.zip vs).mergeSort (PySem.W.dataLe false fun b : W × V => dat C.x m 12 b.1)).map (·.1) = ys := by
          have q := PySem.W.sort_maps (r := PySem.W.dataLe false fun b : W × V => dat C.x m 12 b.1) (s := leD C.x m) (fun p : W × V => p.1) (l := xs.zip vs) (fun _ _ _ _ => rfl)
          rw [fst] at q
          exact q.trans es.symm
        rw [ey] at rr
        obtain ⟨z, pq⟩ := post_newL S rr p
        obtain ⟨ep, he'⟩ := PyProof.Rows.sortedAll_at s.heap its out.toArray
        exact ⟨.ref _, upd H (s.heap.objs.size + 1) (.lst _), I.laid (t' := s.toks) (o := .lst _) (fun _ _ => PyProof.Rows.sortedAll_old) (Nat.le_succ _) ⟨z, out, ep, q, he'⟩, rfl, pq _ (I.hok.fresh (Nat.le_succ _))⟩
theorem Reads.there0 {h : Heap} : (∀ (d : PyData) (v : Value) (as : List Addr), Reads h v d as → ∀ b ∈ as, ∃ o, h.get? b = some o) := by
  intro d v as r
  refine Reads.rec (motive_1 := fun _ _ as _ => ∀ b ∈ as, ∃ o, h.get? b = some o) (motive_2 := fun _ _ as _ => ∀ b ∈ as, ∃ o, h.get? b = some o) ?_ ?_ ?_ ?_ ?_ ?_ ?_ ?_ ?_ r
  · intro b hb; cases hb
  · intro _ b hb; cases hb
  · intro _ _ b hb; cases hb
  · intro _ _ b hb; cases hb
  · intro a o vs n xs as h1 _ _ _ ih b hb
    rcases List.mem_cons.mp hb with rfl | hb
    · exact ⟨_, h1⟩
    · exact ih b hb
  · intro a o vs n xs as h1 _ _ _ ih b hb
    exact ih b hb
  · intro a o es n kvs as bs h1 _ _ _ _ ih1 ih2 b hb
    rcases List.mem_append.mp hb with hb | hb
    · rcases List.mem_cons.mp hb with rfl | hb
      · exact ⟨_, h1⟩
      · exact ih1 b hb
    · exact ih2 b hb
  · intro b hb; cases hb
  · intro v vs d ds as bs _ _ ih1 ih2 b hb
    rcases List.mem_append.mp hb with hb | hb
    · exact ih1 b hb
    · exact ih2 b hb
/-- list.sort of a list just laid -/
theorem sort_fin (R : Rng Γ C) (hu : X.A.units + 64 < cLine) {pins : List (Addr × Obj)} {s : Shared} {σ : L2.St} {H : Hp} {Q : VK} {ι : Im} {m : M} {xs : List W} {vs : List V} {its : List Value} {h' : Heap} {tk : Nat} {E : Value → Shared → Prop} (I1 : L2.Inv X pins σ H { s with heap := h', toks := tk }) (S : SimH X.K C ι m H)
    (rs : RepVs C (TT' X.K H) ι xs vs) (rv : Vals vs its) (hz : vs.length ≤ sizeLine) (p : PostE (QV X.K C ι H Q) (lift (sortW Γ.lo Γ.hi m xs) fun ys => newL ys m)) :
    wpAny (model X.prog X.w) X.A.in1 (call (.builtin "list.sort") [.ref h'.objs.size]) (fun _ s' => EP X pins σ Q (.ref h'.objs.size) s') E { s with heap := h'.push { cls := .type "list", data := .seq its.toArray }, toks := tk } := by
  obtain ⟨ys, e, p⟩ := PostE.lift p
  have e : (Bool.rec (.error (.stuck 2)) (sortI Γ.lo Γ.hi m [] xs) (cmpOk m xs && srtOk m xs) : Except Er (List W)) = .ok ys := e
  cases hb : (cmpOk m xs && srtOk m xs) with
  | false => rw [hb] at e; cases e
  | true =>
    rw [hb] at e
    rw [Bool.and_eq_true] at hb
    obtain ⟨d, al, nn⟩ := cmpOk_ok (C := C) hb.1
    have es' := sortI_sort R.lo R.hi d al e
    obtain ⟨dl, pl, zl⟩ := dt_all S d rs
    have lv := rs.length
    have each := vals_each lv rv
    have rdz : ∀ p ∈ xs.zip vs, RepV C (TT' X.K H) ι p.1 p.2 := reps_zip rs
    have fst : (xs.zip vs).map (·.1) = xs := List.map_fst_zip (by omega)
    have menc : (xs.zip vs).map (fun p => dat C.x m 12 p.1) = xs.map (dat C.x m 12) := by rw [← congrArg (List.map (dat C.x m 12)) fst, List.map_map]; rfl
    obtain ⟨as0, rds⟩ := Dp.readsAll I1 _ _ _ dl rv
    have rds : ReadsAll h' its (xs.map (dat C.x m 12)) as0 := rds
    have each2 : PySem.W.EachIs (fun v (b : W × V) => ∃ as, Reads h' v (dat C.x m 12 b.1) as) its (xs.zip vs) := PySem.W.readsAll_each _ (by rw [menc]; exact rds)
    have hob : (h'.push { cls := .type "list", data := .seq its.toArray }).get? h'.objs.size = some (seqObj "list" its.toArray 0) := Heap.get?_push_size _ rfl
    have ka : ∀ b o, h'.get? b = some o → (h'.push { cls := .type "list", data := .seq its.toArray }).get? b = some o := fun b o e => Heap.get?_push_of_some _ e
    have ne0 : ∀ b o, h'.get? b = some o → b ≠ h'.objs.size := fun b o e => Nat.ne_of_lt (Heap.lt_size e)
    generalize hh2 : h'.push { cls := .type "list", data := .seq its.toArray } = h2 at hob ka ⊢
    have each3 : PySem.W.EachIs (fun v (b : W × V) => ∃ as, Reads h2 v (dat C.x m 12 b.1) as ∧ h'.objs.size ∉ as) its (xs.zip vs) := each2.mono fun v b ⟨as1, r⟩ => ⟨as1, PyProof.Rows.Reads.keeps (fun _ _ q => ka _ _ q) r, fun hmem => by
      obtain ⟨o, ho⟩ := Reads.there0 _ _ _ r _ hmem
      exact ne0 _ _ ho rfl⟩
    have al2 : PySem.W.AllAlike ((xs.zip vs).map fun p => dat C.x m 12 p.1) := by
      rw [menc]
      intro d hd d' hd'
      obtain ⟨y, hy, rfl⟩ := List.mem_map.mp hd
      obtain ⟨y', hy', rfl⟩ := List.mem_map.mp hd'
      exact al y hy y' hy'
    have so : PySem.W.Sortable ((xs.zip vs).map fun p => dat C.x m 12 p.1) := by rw [menc]; exact srt_sortable hb.2 d nn al
    have hlen2 : (xs.zip vs).length ≤ sizeLine := by rw [List.length_zip]; omega
    refine PySem.W.list_sort_data (s := { s with heap := h2, toks := tk }) (R := fun u (p : W × V) => RelV p.2 u) hob each each3 al2 so hlen2 (fun b hb2 => ?_) fun out hol hout => ?_
    · have : (dat C.x m 12 b.1).depth ≤ 12 := (dt_dp S 12 _ _ (allL_ok d b.1 (by rw [← fst]; exact List.mem_map_of_mem hb2)) (rdz b hb2)).2.2
      show X.A.units + 1 + 1 + _ < cLine
      omega
    · have perm := List.mergeSort_perm (xs.zip vs) (PySem.W.dataLe false fun b : W × V => dat C.x m 12 b.1)
      have q := each_vals hout
      have rr := reps_of (C := C) (ι := ι) (T := TT' X.K H) (l := (xs.zip vs).mergeSort (PySem.W.dataLe false fun b : W × V => dat C.x m 12 b.1)) fun p hp => rdz p (perm.mem_iff.mp hp)
      have ey : ((xs.zip vs).mergeSort (PySem.W.dataLe false fun b : W × V => dat C.x m 12 b.1)).map (·.1) = ys := by
        have q := PySem.W.sort_maps (r := PySem.W.dataLe false fun b : W × V => dat C.x m 12 b.1) (s := leD C.x m) (fun p : W × V => p.1) (l := xs.zip vs) (fun _ _ _ _ => rfl)
        rw [fst] at q
        exact q.trans es'.symm
      rw [ey] at rr
      obtain ⟨z2, pq⟩ := post_newL S rr p
      obtain ⟨eF, heF⟩ := PyProof.Rows.sortedHeap_at (vs := its) (out := List.toArray out) hob
      have kF : ∀ b o, h'.get? b = some o → (sortedHeap h2 h'.objs.size its (List.toArray out)).get? b = some o := fun b o e => (PyProof.Rows.sortedHeap_old (ne0 _ _ e) (Heap.lt_size (ka _ _ e))).trans (ka _ _ e)
      have hn2 : H h'.objs.size = none := I1.hok.fresh (Nat.le_refl _)
      have I3 : L2.Inv X pins σ H { s with heap := sortedHeap h2 h'.objs.size its (List.toArray out), toks := tk } := I1.kept (t' := tk) kF
      exact ⟨.ref h'.objs.size, _, I3.take (h' := sortedHeap h2 h'.objs.size its (List.toArray out)) (t' := tk) (fun b ob _ e => e) (I1.fpOk (Nat.le_refl _) hn2) (o := .lst _) ⟨z2, out, eF, q, by simpa using heF⟩, rfl, pq _ hn2⟩
theorem sorted_tup (R : Rng Γ C) (hu : X.A.units + 64 < cLine) {pins : List (Addr × Obj)} {s : Shared} {σ : L2.St} {H : Hp} {a : Addr} {u : Value} {Q : VK} {ι : Im} {m : M} {xs : List W} {vs : List V} (I : L2.Inv X pins σ H s) (rx : RelV (.ref a) u) (S : SimH X.K C ι m H) (rs : RepVs C (TT' X.K H) ι xs vs) (ha : H a = some (.tup vs))
    (p : PostE (QV X.K C ι H Q) (lift (sortW Γ.lo Γ.hi m xs) fun ys => newL ys m)) : wpAny (model X.prog X.w) X.A (call (.builtin "sorted") [u]) (EP X pins σ Q) X.xe s := by
  obtain rfl : u = .ref a := rx
  obtain ⟨its, rv, ⟨o, ho, ht, n0, hd⟩, hz⟩ := I.tuple (SqT.of ha)
  have hl := rv.length
  refine PySem.Calls.call_function_entry kind_sorted plain_sorted entry_sorted (args_sorted1 _) (by
    unfold Builtin.«sorted»
    refine wpAny_bind (m := checkCount "sorted" 1 1 _) (wpAny_pure (wpAny_bind (PySem.wpAny_collect_seq (A := X.A.in1) a (.inr rfl) ho ht hd (fun h' hk => ?_) (by rw [List.size_toArray]; omega))))
    have I1 : L2.Inv X pins σ H { s with heap := h', toks := s.toks } := I.kept (t' := s.toks) hk
    have hg := sort_fin (s := s) (E := X.xe) R hu I1 S rs rv hz p
    refine wpAny_bind (wpAny_newList (wpAny_bind (wpAny_holding (wpAny_mono hg (fun _ s' x => wpAny_pure ⟨_, rfl, x⟩) fun _ _ e => e))) (by show its.toArray.toList.length ≤ _; simp; omega)))
theorem sorted_ok (R : Rng Γ C) (hu : X.A.units + 64 < cLine) (hc : X.calm = true) : CallR X (.builtin "sorted") (rB X.K C (qSorted Γ)) := rB_of fun pins s σ H x u Q ι m w I rx S r p => by
  obtain ⟨xs, e0, p2⟩ := PostE.lift p
  cases w with
  | tup ws =>
    cases e0
    cases r with
    | tup ht rs => exact sorted_tup R hu I rx S rs ht p2
  | ref n =>
    unfold sortOf at e0
    dsimp only at e0
    split at e0
    · rename_i hm
      cases e0
      exact sorted_list R hu I rx S r hm p2
    · rename_i kvs hm
      cases hk : (allL (fun p => isIntW p.1) kvs && Nat.ble kvs.length 63) with
      | false => rw [hk] at e0; cases e0
      | true =>
        rw [hk] at e0
        cases e0
        rw [Bool.and_eq_true] at hk
        cases r with
        | ref hn =>
          rename_i a
          obtain ⟨a', e1, ks, h1, h2⟩ := S.ob n _ hm
          rw [hn] at e1; cases e1
          obtain ⟨is, e2, e3⟩ := int_keys h2 hk.1
          have hl : is.length < 64 := by
            have := congrArg List.length e2
            rw [List.length_map, List.length_map] at this
            have := Nat.le_of_ble_eq_true hk.2
            omega
          refine call_sortedDI hc pins s σ H _ _ Q I (.cons rx .nil) ⟨a, ks, is, rfl, Rd.of h1, e3, hl, fun ys q hp hs hq => ?_⟩
          obtain ⟨zs, e, p3⟩ := PostE.lift p2
          rw [e2] at e
          have e : (Bool.rec (.error (.stuck 2)) (sortI Γ.lo Γ.hi m [] (is.map W.int)) (cmpOk m (is.map W.int) && srtOk m (is.map W.int)) : Except Er (List W)) = .ok zs := e
          cases hb : (cmpOk m (is.map W.int) && srtOk m (is.map W.int)) with
          | false => rw [hb] at e; cases e
          | true =>
            rw [hb] at e
            rw [Bool.and_eq_true] at hb
            obtain ⟨d, al, nn⟩ := cmpOk_ok (C := C) hb.1
            have es := sortI_sort R.lo R.hi d al e
            have em : zs = (is.mergeSort fun a b => decide (a ≤ b)).map W.int := by
              rw [es]
              have q := PySem.W.sort_maps (r := fun a b : Int => decide (a ≤ b)) (s := leD C.x m) W.int (l := is) (fun a _ b _ => by
                have := congrFun (congrFun (PySem.W.dataLe_int (β := Int) id) a) b
                exact this.symm)
              exact q.symm
            have ey : is.mergeSort (fun a b => decide (a ≤ b)) = ys := by
              have s1 : (is.mergeSort fun a b => decide (a ≤ b)).Pairwise (· ≤ ·) := by
                have := List.pairwise_mergeSort (le := fun a b : Int => decide (a ≤ b)) (fun a b c h1 h2 => by simp at *; omega) (fun a b => by simp; omega) is
                exact this.imp fun h => by simpa using h
              exact ((List.mergeSort_perm is _).trans hp.symm).eq_of_pairwise (fun a b _ _ h1 h2 => Int.le_antisymm h1 h2) s1 hs
            rw [em, ey] at p3
            exact (post_newL S reps_ints p3).2 q hq
    · cases e0
  | _ => cases e0
/-- tuple(x), list(x) -/
theorem tuple_ok : CallR X (.type "tuple") (rB X.K C (qTuple Γ)) := rB_of fun pins s σ H x u Q ι m w I rx S r p => by
  obtain ⟨xs, e, p⟩ := PostE.lift p
  obtain ⟨a, vs, rfl, rs, k⟩ := seqI_inv S r e
  obtain ⟨z, h1, h2⟩ := post_newT S rs p
  rcases k with ⟨k, _⟩ | ⟨k, _⟩
  · exact call_tuple_of pins s σ H _ _ Q I (.cons rx .nil) ⟨a, vs, rfl, .inl ⟨SqL.of k, h2⟩⟩
  · exact call_tuple_of pins s σ H _ _ Q I (.cons rx .nil) ⟨a, vs, rfl, .inr ⟨SqT.of k, h1 a k⟩⟩
theorem list_ok : CallR X (.type "list") (rB X.K C (qList Γ)) := rB_of fun pins s σ H x u Q ι m w I rx S r p => by
  obtain ⟨xs, e, p⟩ := PostE.lift p
  obtain ⟨a, vs, rfl, rs, k⟩ := seqI_inv S r e
  obtain ⟨z, h1⟩ := post_newL S rs p
  refine call_list_of pins s σ H _ _ Q I (.cons rx .nil) ⟨a, vs, rfl, ?_, h1⟩
  rcases k with ⟨k, _⟩ | ⟨k, _⟩
  · exact .inl (SqL.of k)
  · exact .inr (SqT.of k)
theorem int_ok : CallR X (.type "int") (rB X.K C (qInt Γ)) := rB_of fun pins s σ H x u Q ι m w I rx S r p => by
  cases r with
  | int i => exact call_int1 pins s σ H _ _ Q I (.cons rx .nil) (.inl ⟨i, rfl, post_ok S (.int i) p⟩)
  | aff c k => exact call_int1 pins s σ H _ _ Q I (.cons rx .nil) (.inl ⟨_, rfl, post_ok S (.aff c k) p⟩)
  | bl b => exact call_int1 pins s σ H _ _ Q I (.cons rx .nil) (.inr ⟨b, rfl, by cases b <;> exact post_ok S (.int _) p⟩)
  | _ => exact p.elim
theorem abs_ok (R : Rng Γ C) : CallR X (.builtin "abs") (rB X.K C (qAbs Γ)) := rB_of fun pins s σ H x u Q ι m w I rx S r p => by
  cases r with
  | int i =>
    have p : PostE (QV X.K C ι H Q) (.ok (.int (ifB (ilt i 0) (-i) i)) m) := p
    refine call_abs pins s σ H _ _ Q I (.cons rx .nil) ⟨i, rfl, ?_⟩
    have e : (if i < 0 then -i else i) = ifB (ilt i 0) (-i) i := by
      rw [ilt_iff]
      by_cases h : i < 0
      · rw [if_pos h, decide_eq_true h]; rfl
      · rw [if_neg h, decide_eq_false h]; rfl
    rw [e]
    exact post_ok S (.int _) p
  | aff c k =>
    have p : PostE (QV X.K C ι H Q) (lift (signOf Γ.lo Γ.hi c k) fun s => ifB (Nat.beq s 0) (.ok (mk (-c) (-k)) m) (.ok (.aff c k) m)) := p
    obtain ⟨n, e, p⟩ := PostE.lift p
    have hs := signOf_ok R.lo R.hi e
    refine call_abs pins s σ H _ _ Q I (.cons rx .nil) ⟨_, rfl, ?_⟩
    rcases PostE.ifB p with ⟨h, p⟩ | ⟨h, p⟩
    · have h0 : n = 0 := Nat.eq_of_beq_eq_true h
      rw [h0] at hs
      have hneg := sgn_neg.mp hs.symm
      rw [if_pos hneg]
      exact post_ok S (rep_mk _ _ (by rw [Int.neg_mul]; omega)) p
    · have hneg : ¬ c + k * C.x < 0 := fun q => by
        rw [sgn_neg.mpr q] at hs
        rw [hs] at h; cases h
      rw [if_neg hneg]
      exact post_ok S (.aff c k) p
  | _ => exact p.elim
/-! ### isinstance -/
def tyN : Nat → String
  | 0 => "NoneType" | 1 => "bool" | 2 => "int" | 3 => "str" | 4 => "tuple" | 5 => "list" | _ => "dict"
theorem ty_of (S : SimH K C ι m H) {w : W} {v : V} {k : Nat} (r : RepV C (TT' K H) ι w v) (h : tyW m w = some k) : k < 7 ∧ TyX K H v (.type (tyN k)) := by
  cases r with
  | non => cases h; exact ⟨by decide, .base .non⟩
  | bl b => cases h; exact ⟨by decide, .base (.bl b)⟩
  | int i => cases h; exact ⟨by decide, .base (.int i)⟩
  | aff c k => cases h; exact ⟨by decide, .base (.int _)⟩
  | str x => cases h; exact ⟨by decide, .base (.str x)⟩
  | tup ht rs => cases h; exact ⟨by decide, .base (.tup ht)⟩
  | ref hn =>
    rename_i n a
    have h : tyO (m.get n) = some k := h
    cases hm : m.get n with
    | none => rw [hm] at h; cases h
    | some o =>
      rw [hm] at h
      cases o with
      | lst xs =>
        cases h
        obtain ⟨vs, f2, rs⟩ := lst_at S hn hm
        exact ⟨by decide, .base (.lst f2)⟩
      | dict t kvs =>
        cases h
        obtain ⟨a', e1, e2⟩ := S.ob n _ hm
        rw [hn] at e1; cases e1
        cases t with
        | false => obtain ⟨ks, h1, h2⟩ := e2; exact ⟨by decide, .base (.dK h1)⟩
        | true => obtain ⟨ks, h1, h2⟩ := e2; exact ⟨by decide, .base (.dT h1)⟩
      | _ => cases h
  | glo k => cases h
/-- the answers for the types' names -/
def IsaOk (T : String) (f : Nat → Bool) : Prop := kitB "NoneType" T = some (f 0) ∧ kitB "bool" T = some (f 1) ∧ kitB "int" T = some (f 2) ∧ kitB "str" T = some (f 3) ∧ kitB "tuple" T = some (f 4) ∧ kitB "list" T = some (f 5) ∧ kitB "dict" T = some (f 6)
theorem IsaOk.at {T : String} {f : Nat → Bool} (h : IsaOk T f) {k : Nat} (hk : k < 7) : kitB (tyN k) T = some (f k) := by
  obtain ⟨a0, a1, a2, a3, a4, a5, a6⟩ := h
  match k, hk with
  | 0, _ => exact a0
  | 1, _ => exact a1
  | 2, _ => exact a2
  | 3, _ => exact a3
  | 4, _ => exact a4
  | 5, _ => exact a5
  | 6, _ => exact a6
theorem snd_isa {T : Str} {n : String} {f : Nat → Bool} {p q : Pos} (hf : IsaOk n f) (hg : Gl X "isinstance") (hm : X.mg "isinstance" = none) (hgT : Gl X T) (hmT : X.mg T = none) (hvT : bootBuiltins T = some (.type n)) (hnT : T ≠ "__name__") (hdT : (T == ("__debug__" : Str)) = false) (ha : Snd X C a ga) :
    Snd X C (.Call (.Name "isinstance" p) [a, .Name T q] [] pos) (fun σ m => REbind (ga σ m) fun x m1 => isW f x m1) :=
  Snd.val ⟨fun _ _ => rfl, fun _ _ => rfl, fun _ _ => rfl, fun op => by cases op <;> rfl, fun _ _ _ => rfl, fun _ _ _ _ => rfl⟩ ((pe_callB call_isi hg hm (by first | rfl | decide | decide +kernel) (pa_cons ha.pe (pa_cons (pe_bltn hgT hmT hvT (v := .ty n) rfl hnT hdT) pa_nil rfl) (ha.nice.star _ _)) (by decide) (by decide) (ha.nice.star _ _) rfl).mono fun σ H Q ⟨ι, σ', m, s, S, p⟩ => by
    refine tG_bind s S p fun ι1 H1 w v m1 l1 t1 s1 S1 r1 p1 => ?_
    obtain ⟨k, e, p1⟩ := PostE.liftO p1
    obtain ⟨hk, ty⟩ := ty_of S1 r1 e
    exact ⟨v, .ty n, _, _, f k, rfl, .ty n, ty, kit_ty (hf.at hk), post_ok S1 (.bl _) (PostE.mono (fun a m => QV.base l1 t1) p1)⟩) fun _ => rfl
/-! ### min, max -/
theorem lt_nums (R : Rng Γ C) {a b : W} {r : Bool} (h : (isNum a && isNum b) = true) (e : ltN Γ.lo Γ.hi m 12 a b = .ok r) : ∃ i j, numV C.x a = some i ∧ numV C.x b = some j ∧ r = decide (i < j) := by
  rw [Bool.and_eq_true] at h
  have d : ∀ w, isNum w = true → dtN m 12 w = true ∧ ∃ i, numV C.x w = some i ∧ dat C.x m 12 w = .int i := fun w hw => by
    cases w with
    | int i => exact ⟨rfl, i, rfl, rfl⟩
    | aff c k => exact ⟨rfl, _, rfl, rfl⟩
    | _ => cases hw
  obtain ⟨d1, i, e1, f1⟩ := d a h.1
  obtain ⟨d2, j, e2, f2⟩ := d b h.2
  have := ltN_dat R.lo R.hi 12 12 a b r (Nat.le_refl _) d1 d2 (by rw [f1, f2]; rfl) e
  rw [f1, f2] at this
  refine ⟨i, j, e1, e2, ?_⟩
  rw [← this]
  exact PySem.W.dataLt_int i j
def rB2 (K : PySem.W.Frag) (C : Cn) (g : W → W → M → RE W) : List V → Hp → VK → Prop := fun xs H Q => ∃ ι m w u x y, xs = [x, y] ∧ SimH K C ι m H ∧ RepV C (TT' K H) ι w x ∧ RepV C (TT' K H) ι u y ∧ PostE (QV K C ι H Q) (g w u m)
theorem min2_ok (R : Rng Γ C) (hc : X.calm = true) : CallR X (.builtin "min") (rB2 X.K C (rMin Γ)) := by
  intro pins s σ H xs us Q I rv ⟨ι, m, w, u, x, y, e, S, r1, r2, p⟩
  subst e
  obtain ⟨hn, p⟩ := PostE.ifF p
  obtain ⟨b, e, p⟩ := PostE.lift p
  rw [Bool.and_comm] at hn
  obtain ⟨j, i, e1, e2, e3⟩ := lt_nums R hn e
  refine call_min2 hc pins s σ H _ _ Q I rv ⟨i, j, by rw [r1.num e2, r2.num e1], ?_⟩
  have p : PostE (QV X.K C ι H Q) (.ok (ifB b u w) m) := p
  by_cases h : j < i
  · rw [if_pos h]
    rw [e3, decide_eq_true h] at p
    exact post_ok S (num_rep e1) p
  · rw [if_neg h]
    rw [e3, decide_eq_false h] at p
    exact post_ok S (num_rep e2) p
theorem max2_ok (R : Rng Γ C) (hc : X.calm = true) : CallR X (.builtin "max") (rB2 X.K C (rMax Γ)) := by
  intro pins s σ H xs us Q I rv ⟨ι, m, w, u, x, y, e, S, r1, r2, p⟩
  subst e
  obtain ⟨hn, p⟩ := PostE.ifF p
  obtain ⟨b, e, p⟩ := PostE.lift p
  obtain ⟨i, j, e1, e2, e3⟩ := lt_nums R hn e
  refine call_max2 hc pins s σ H _ _ Q I rv ⟨i, j, by rw [r1.num e1, r2.num e2], ?_⟩
  have p : PostE (QV X.K C ι H Q) (.ok (ifB b u w) m) := p
  by_cases h : j > i
  · rw [if_pos h]
    rw [e3, decide_eq_true (show i < j from h)] at p
    exact post_ok S (num_rep e2) p
  · rw [if_neg h]
    rw [e3, decide_eq_false (show ¬ i < j from h)] at p
    exact post_ok S (num_rep e1) p
theorem snd_callB2 {x : Str} {id : String} {f : W → W → M → RE W} {p : Pos} (hc : CallR X (.builtin id) (rB2 X.K C f)) (hg : Gl X x) (hm : X.mg x = none) (hv : bootBuiltins x = some (.builtin id)) (hn : x ≠ "__name__") (hdb : (x == ("__debug__" : Str)) = false) (ha : Snd X C a ga) (hb : Snd X C b gb) :
    Snd X C (.Call (.Name x p) [a, b] [] pos) (fun σ m => REbind (ga σ m) fun x m1 => ifB true (REbind (gb σ m1) fun y m2 => f x y m2) (.er (.stuck 52))) :=
  Snd.val ⟨fun _ _ => rfl, fun _ _ => rfl, fun _ _ => rfl, fun op => by cases op <;> rfl, fun _ _ _ => rfl, fun _ _ _ _ => rfl⟩ ((pe_callB hc hg hm hv (pa_cons ha.pe (pa_cons hb.pe pa_nil (hb.nice.star _ _)) (ha.nice.star _ _)) hn hdb (ha.nice.star _ _) (by rw [hb.nice.star]; rfl)).mono fun σ H Q ⟨ι, σ', m, s, S, p⟩ => by
    refine tG_bind s S p fun ι1 H1 w v m1 l1 t1 s1 S1 r1 p1 => ?_
    have p1 : PostE (QV X.K C ι H Q) (REbind (gb σ' m1) fun y m2 => f w y m2) := p1
    refine tG_bind s1 S1 p1 fun ι2 H2 u y m2 l2 t2 s2 S2 r2 p2 => ?_
    exact ⟨ι2, m2, w, u, v, y, rfl, S2, r1.mono t2 l2, r2, PostE.mono (fun a m => QV.base (l1.trans l2) (t1.trans t2)) p2⟩) fun _ => rfl
/-- what stands for a value by its datum alone -/
theorem rep_of_dat {T : Addr → List V → Prop} : ∀ (f g : Nat) (a b : W) (v : V), f ≤ g → pureN f a = true → pureN f b = true → dat C.x m g a = dat C.x m g b → RepV C T ι a v → RepV C T ι b v := by
  intro f
  induction f with
  | zero => intro g a b v _ h; cases h
  | succ f ih =>
    intro g a b v hg ha hb e r
    cases g with
    | zero => omega
    | succ g =>
      have list : ∀ (xs ys : List W) (vs : List V), xs.map (dat C.x m g) = ys.map (dat C.x m g) → allL (pureN f) xs = true → allL (pureN f) ys = true → RepVs C T ι xs vs → RepVs C T ι ys vs := by
        intro xs
        induction xs with
        | nil =>
          intro ys vs e _ _ rs
          cases ys with
          | nil => exact rs
          | cons y ys => cases e
        | cons x xs ihx =>
          intro ys vs e ha hb rs
          cases ys with
          | nil => cases e
          | cons y ys =>
            obtain ⟨a1, a2⟩ := allL_cons ha
            obtain ⟨b1, b2⟩ := allL_cons hb
            rw [List.map_cons, List.map_cons] at e
            injection e with e1 e2
            cases rs with
            | cons r1 r2 => exact .cons (ih g x y _ (by omega) a1 b1 e1 r1) (ihx ys _ e2 a2 b2 r2)
      cases a with
      | ref n => cases ha
      | glo k => cases ha
      | tup xs =>
        cases b with
        | tup ys =>
          cases r with
          | tup ht rs =>
            have e : PyData.tuple (xs.map (dat C.x m g)) = PyData.tuple (ys.map (dat C.x m g)) := e
            injection e with e
            exact .tup ht (list xs ys _ e ha hb rs)
        | ref n => cases hb
        | glo k => cases hb
        | _ => cases e
      | int i =>
        cases r
        cases b with
        | int j => cases e; exact .int _
        | aff c k => have e : PyData.int i = PyData.int (c + k * C.x) := e; injection e with e; rw [e]; exact .aff c k
        | ref n => cases hb
        | glo k => cases hb
        | _ => cases e
      | aff c k =>
        cases r
        cases b with
        | int j => have e : PyData.int (c + k * C.x) = PyData.int j := e; injection e with e; rw [e]; exact .int _
        | aff c' k' => have e : PyData.int (c + k * C.x) = PyData.int (c' + k' * C.x) := e; injection e with e; rw [e]; exact .aff c' k'
        | ref n => cases hb
        | glo k => cases hb
        | _ => cases e
      | non =>
        cases r
        cases b with
        | non => exact .non
        | ref n => cases hb
        | glo k => cases hb
        | _ => cases e
      | bl x =>
        cases r
        cases b with
        | bl y => cases e; exact .bl _
        | ref n => cases hb
        | glo k => cases hb
        | _ => cases e
      | str x =>
        cases r
        cases b with
        | str y => cases e; exact .str _
        | ref n => cases hb
        | glo k => cases hb
        | _ => cases e
theorem allL_mem {α : Type} {f : α → Bool} : ∀ {l : List α}, (∀ z ∈ l, f z = true) → allL f l = true
  | [], _ => rfl
  | z :: zs, h => by
    show (Bool.rec false (allL f zs) (f z) : Bool) = true
    rw [h z (List.mem_cons_self ..), allL_mem fun w hw => h w (List.mem_cons_of_mem _ hw)]
theorem minW_ok (R : Rng Γ C) : ∀ {l : List W} {a w : W}, (∀ x ∈ a :: l, dtN m 12 x = true) → (∀ x ∈ a :: l, ∀ y ∈ a :: l, PySem.W.alike (dat C.x m 12 x) (dat C.x m 12 y) = true) → minW Γ.lo Γ.hi m a l = .ok w → w ∈ a :: l ∧ dat C.x m 12 w = PySem.W.minD (dat C.x m 12 a) (l.map (dat C.x m 12))
  | [], a, w, _, _, h => by cases h; exact ⟨List.mem_cons_self .., rfl⟩
  | y :: ys, a, w, hd, ha, h => by
    have h' : exIf (ltN Γ.lo Γ.hi m 12 y a) (minW Γ.lo Γ.hi m y ys) (minW Γ.lo Γ.hi m a ys) = .ok w := h
    have my : y ∈ a :: y :: ys := List.mem_cons_of_mem _ (List.mem_cons_self ..)
    have ma : a ∈ a :: y :: ys := List.mem_cons_self ..
    have sub1 : ∀ x ∈ y :: ys, x ∈ a :: y :: ys := fun x hx => List.mem_cons_of_mem _ hx
    have sub2 : ∀ x ∈ a :: ys, x ∈ a :: y :: ys := fun x hx => by
      rcases List.mem_cons.mp hx with e | e
      · rw [e]; exact ma
      · exact List.mem_cons_of_mem _ (List.mem_cons_of_mem _ e)
    rcases exIf_ok h' with ⟨e, q⟩ | ⟨e, q⟩
    · obtain ⟨h1, h2⟩ := minW_ok R (fun x hx => hd x (sub1 x hx)) (fun x hx z hz => ha x (sub1 x hx) z (sub1 z hz)) q
      refine ⟨sub1 w h1, h2.trans ?_⟩
      have lt := ltN_dat R.lo R.hi 12 12 y a true (Nat.le_refl _) (hd y my) (hd a ma) (ha y my a ma) e
      show _ = List.foldl _ (if PySem.W.dataLt (dat C.x m 12 y) (dat C.x m 12 a) = true then _ else _) _
      rw [if_pos lt]; rfl
    · obtain ⟨h1, h2⟩ := minW_ok R (fun x hx => hd x (sub2 x hx)) (fun x hx z hz => ha x (sub2 x hx) z (sub2 z hz)) q
      refine ⟨sub2 w h1, h2.trans ?_⟩
      have lt := ltN_dat R.lo R.hi 12 12 y a false (Nat.le_refl _) (hd y my) (hd a ma) (ha y my a ma) e
      show _ = List.foldl _ (if PySem.W.dataLt (dat C.x m 12 y) (dat C.x m 12 a) = true then _ else _) _
      rw [if_neg (by rw [lt]; decide)]; rfl
theorem maxW_ok (R : Rng Γ C) : ∀ {l : List W} {a w : W}, (∀ x ∈ a :: l, dtN m 12 x = true) → (∀ x ∈ a :: l, ∀ y ∈ a :: l, PySem.W.alike (dat C.x m 12 x) (dat C.x m 12 y) = true) → maxW Γ.lo Γ.hi m a l = .ok w → w ∈ a :: l ∧ dat C.x m 12 w = PySem.W.maxD (dat C.x m 12 a) (l.map (dat C.x m 12))
  | [], a, w, _, _, h => by cases h; exact ⟨List.mem_cons_self .., rfl⟩
  | y :: ys, a, w, hd, ha, h => by
    have h' : exIf (ltN Γ.lo Γ.hi m 12 a y) (maxW Γ.lo Γ.hi m y ys) (maxW Γ.lo Γ.hi m a ys) = .ok w := h
    have my : y ∈ a :: y :: ys := List.mem_cons_of_mem _ (List.mem_cons_self ..)
    have ma : a ∈ a :: y :: ys := List.mem_cons_self ..
    have sub1 : ∀ x ∈ y :: ys, x ∈ a :: y :: ys := fun x hx => List.mem_cons_of_mem _ hx
    have sub2 : ∀ x ∈ a :: ys, x ∈ a :: y :: ys := fun x hx => by
      rcases List.mem_cons.mp hx with e | e
      · rw [e]; exact ma
      · exact List.mem_cons_of_mem _ (List.mem_cons_of_mem _ e)
    rcases exIf_ok h' with ⟨e, q⟩ | ⟨e, q⟩
    · obtain ⟨h1, h2⟩ := maxW_ok R (fun x hx => hd x (sub1 x hx)) (fun x hx z hz => ha x (sub1 x hx) z (sub1 z hz)) q
      refine ⟨sub1 w h1, h2.trans ?_⟩
      have lt := ltN_dat R.lo R.hi 12 12 a y true (Nat.le_refl _) (hd a ma) (hd y my) (ha a ma y my) e
      show _ = List.foldl _ (if PySem.W.dataLt (dat C.x m 12 a) (dat C.x m 12 y) = true then _ else _) _
      rw [if_pos lt]; rfl
    · obtain ⟨h1, h2⟩ := maxW_ok R (fun x hx => hd x (sub2 x hx)) (fun x hx z hz => ha x (sub2 x hx) z (sub2 z hz)) q
      refine ⟨sub2 w h1, h2.trans ?_⟩
      have lt := ltN_dat R.lo R.hi 12 12 a y false (Nat.le_refl _) (hd a ma) (hd y my) (ha a ma y my) e
      show _ = List.foldl _ (if PySem.W.dataLt (dat C.x m 12 a) (dat C.x m 12 y) = true then _ else _) _
      rw [if_neg (by rw [lt]; decide)]; rfl
theorem getD_at {xs : List W} {f : W → PyData} {i : Nat} {w : W} (h : xs[i]? = some w) : (xs.map f).getD i .none = f w := by
  rw [List.getD_eq_getElem?_getD, List.getElem?_map, h]; rfl
theorem RepVs.get' {T : Addr → List V → Prop} : ∀ {ws : List W} {vs : List V} {i : Nat} {v : V}, RepVs C T ι ws vs → vs[i]? = some v → ∃ w, ws[i]? = some w ∧ RepV C T ι w v
  | _, _, _, _, .nil, e => by simp at e
  | _, _, 0, _, .cons h _, e => by simp at e; subst e; exact ⟨_, rfl, h⟩
  | _, _, i + 1, _, .cons _ r, e => by
    obtain ⟨w, h1, h2⟩ := RepVs.get' (i := i) r (by simpa using e)
    exact ⟨w, by simpa using h1, h2⟩
theorem valsget : ∀ {xs : List V} {us : List Value} {i : Nat} {u : Value}, Vals xs us → us[i]? = some u → ∃ x, xs[i]? = some x ∧ RelV x u
  | _, _, _, _, .nil, e => by simp at e
  | _, _, 0, _, .cons r _, e => by simp at e; subst e; exact ⟨_, rfl, r⟩
  | _, _, i + 1, u, .cons _ t, e => by
    obtain ⟨x, h1, h2⟩ := valsget (i := i) (u := u) t (by simpa using e)
    exact ⟨x, by simpa using h1, h2⟩
/-- the best item: the one that came out -/
theorem best_fin {pins : List (Addr × Obj)} {s : Shared} {σ : L2.St} {xs : List W} {vs : List V} {its : List Value} {w : W} {i : Nat} {v : Value} {h' : Heap} {tk : Nat} {bs : List Addr} (I : Inv X pins σ H s) (S : SimH X.K C ι m H) (rs : RepVs C (TT' X.K H) ι xs vs) (rv : Vals vs its)
    (d : allL (dtN m 12) xs = true) (pu : allL (pureN 12) xs = true) (mem : w ∈ xs) (hi : its[i]? = some v) (hrd : Reads h' v (dat C.x m 12 w) bs) (hk : ∀ b o, s.heap.get? b = some o → h'.get? b = some o) (p : PostE (QV X.K C ι H Q) (.ok w m)) : EP X pins σ Q v { s with heap := h', toks := tk } := by
  obtain ⟨x, e1, r1⟩ := valsget rv hi
  obtain ⟨wi, e2, r2⟩ := RepVs.get' rs e1
  have mi := List.mem_of_getElem? e2
  obtain ⟨d1, _, _⟩ := dt_dp S 12 _ _ (allL_ok d wi mi) r2
  obtain ⟨as, q⟩ := Dp.reads I _ _ _ d1 r1
  have e3 := (PyProof.Rows.reads_det (fun b o e _ => hk b o e) q hrd).1
  exact ⟨x, H, I.kept hk, r1, post_ok S (rep_of_dat 12 12 wi w x (Nat.le_refl _) (allL_ok pu wi mi) (allL_ok pu w mem) e3.symm r2) p⟩
theorem min_ok (R : Rng Γ C) (hu : X.A.units + 64 < cLine) (hc : X.calm = true) : CallR X (.builtin "min") (rB X.K C (qMin Γ)) := rB_of fun pins s σ H x u Q ι m w I rx S r p => by
  obtain ⟨n, xs, rfl, hm, p⟩ := getL_inv p
  cases r with
  | ref hn =>
    rename_i a
    cases xs with
    | nil => exact p.elim
    | cons z zs =>
      obtain ⟨hb, p⟩ := PostE.ifF p
      obtain ⟨w, e, p⟩ := PostE.lift p
      rw [Bool.and_eq_true] at hb
      obtain ⟨d, al, nn⟩ := cmpOk_ok (C := C) hb.1
      obtain ⟨vs, f2, rs⟩ := lst_at S hn hm
      obtain ⟨dl, pl, zl⟩ := dt_all S d rs
      obtain ⟨its, rv, ho, hz⟩ := I.list (SqL.of f2)
      obtain ⟨mem, hdw⟩ := minW_ok R (fun x hx => allL_ok d x hx) al e
      obtain ⟨as, rds⟩ := Dp.readsAll I _ _ _ dl rv
      obtain rfl : u = .ref a := rx
      refine PySem.W.min_list_data (I.ok.hd hc) ho.isList (x := dat C.x m 12 z) (xs := zs.map (dat C.x m 12)) (as := as) (by simpa using rds) ⟨fun x hx y hy => ?_, fun x hx => ?_⟩ (by have : PyData.depthAll (dat C.x m 12 z :: zs.map (dat C.x m 12)) ≤ 12 := zl; omega) fun i v h' tk bs hi hrd hk => ?_
      · obtain ⟨y', hy', rfl⟩ := List.mem_map.mp (show x ∈ (z :: zs).map (dat C.x m 12) from hx)
        obtain ⟨y'', hy'', rfl⟩ := List.mem_map.mp (show y ∈ (z :: zs).map (dat C.x m 12) from hy)
        exact al y' hy' y'' hy''
      · obtain ⟨y', hy', rfl⟩ := List.mem_map.mp (show x ∈ (z :: zs).map (dat C.x m 12) from hx)
        exact nn y' hy'
      · rw [← hdw] at hrd
        exact best_fin I S rs rv d hb.2 mem (by simpa using hi) hrd hk p
theorem max_ok (R : Rng Γ C) (hu : X.A.units + 64 < cLine) (hc : X.calm = true) : CallR X (.builtin "max") (rB X.K C (qMax Γ)) := rB_of fun pins s σ H x u Q ι m w I rx S r p => by
  obtain ⟨n, xs, rfl, hm, p⟩ := getL_inv p
  cases r with
  | ref hn =>
    rename_i a
    cases xs with
    | nil => exact p.elim
    | cons z zs =>
      obtain ⟨hb, p⟩ := PostE.ifF p
      obtain ⟨w, e, p⟩ := PostE.lift p
      rw [Bool.and_eq_true] at hb
      obtain ⟨d, al, nn⟩ := cmpOk_ok (C := C) hb.1
      obtain ⟨vs, f2, rs⟩ := lst_at S hn hm
      obtain ⟨dl, pl, zl⟩ := dt_all S d rs
      obtain ⟨its, rv, ho, hz⟩ := I.list (SqL.of f2)
      obtain ⟨mem, hdw⟩ := maxW_ok R (fun x hx => allL_ok d x hx) al e
      obtain ⟨as, rds⟩ := Dp.readsAll I _ _ _ dl rv
      obtain rfl : u = .ref a := rx
      refine PySem.W.max_list_data (I.ok.hd hc) ho.isList (x := dat C.x m 12 z) (xs := zs.map (dat C.x m 12)) (as := as) (by simpa using rds) ⟨fun x hx y hy => ?_, fun x hx => ?_⟩ (by have : PyData.depthAll (dat C.x m 12 z :: zs.map (dat C.x m 12)) ≤ 12 := zl; omega) fun i v h' tk bs hi hrd hk => ?_
      · obtain ⟨y', hy', rfl⟩ := List.mem_map.mp (show x ∈ (z :: zs).map (dat C.x m 12) from hx)
        obtain ⟨y'', hy'', rfl⟩ := List.mem_map.mp (show y ∈ (z :: zs).map (dat C.x m 12) from hy)
        exact al y' hy' y'' hy''
      · obtain ⟨y', hy', rfl⟩ := List.mem_map.mp (show x ∈ (z :: zs).map (dat C.x m 12) from hx)
        exact nn y' hy'
      · rw [← hdw] at hrd
        exact best_fin I S rs rv d hb.2 mem (by simpa using hi) hrd hk p
end
end
end Jw

/-! Targets, what is walked, statements. -/
namespace Jw
open PySem PySem.Spec PyProof.Rows L2
noncomputable section
section
variable {X : Cx} {C : Cn} {K : PySem.W.Frag} {ι : Im} {H : Hp} {m : M} {Q : VK} {Γ : Pg} {g ga gb gc gd : Sl → M → RE W} {a b c e d : Expr} {pos : Pos}
/-! ### targets -/
/-- the end of a store -/
def QG (K : PySem.W.Frag) (C : Cn) (ι : Im) (H : Hp) (σ : L2.St) (ts : List Nat) (Q : L2.St → Hp → Prop) : Sl → M → Prop := fun σ1' m1 => ∀ ι1 H1 σ1, SimH K C ι1 m1 H1 → Le ι ι1 → Tk K H H1 → SimS K C ι1 H1 σ1' σ1 → wipe σ1 ts = wipe σ ts → Q σ1 H1
def tGt (K : PySem.W.Frag) (C : Cn) (ts : List Nat) (g : W → Sl → M → RE Sl) : TG := fun v σ H Q => ∃ ι σ' m w, SimS K C ι H σ' σ ∧ SimH K C ι m H ∧ RepV C (TT' K H) ι w v ∧ PostE (QG K C ι H σ ts Q) (g w σ' m)
def tGts (K : PySem.W.Frag) (C : Cn) (n : Nat) (ts : List Nat) (g : List W → Sl → M → RE Sl) : TGs := fun vs σ H Q => ∃ ι σ' m ws, ws.length = n ∧ SimS K C ι H σ' σ ∧ SimH K C ι m H ∧ RepVs C (TT' K H) ι ws vs ∧ PostE (QG K C ι H σ ts Q) (g ws σ' m)
/-- no star -/
def TNice (e : Expr) : Prop := ∀ rest env, assignEach (e :: rest) env = (false, assign e env) :: assignEach rest env
structure SndG (X : Cx) (C : Cn) (e : Expr) (ts : List Nat) (g : W → Sl → M → RE Sl) : Prop where
  nice : TNice e
  pg : PG X e (tGt X.K C ts g)
structure SndGs (X : Cx) (C : Cn) (es : List Expr) (ts : List Nat) (g : List W → Sl → M → RE Sl) : Prop where
  len : (assignEach es X.env).length = es.length
  st : (assignEach es X.env).findIdx? (·.1) = none
  pgs : PGs X es (tGts X.K C es.length ts g)
theorem _root_.L2.PG.mono {t t' : TG} (h : PG X e t) (hm : ∀ v σ H Q, t' v σ H Q → t v σ H Q) : PG X e t' := ⟨fun pins s σ H v u Q I r q => h.run pins s σ H v u Q I r (hm _ _ _ _ q)⟩
theorem _root_.L2.PGs.mono {es : List Expr} {t t' : TGs} (h : PGs X es t) (hm : ∀ v σ H Q, t' v σ H Q → t v σ H Q) : PGs X es t' := ⟨fun pins s σ H v u Q I r q => h.run pins s σ H v u Q I r (hm _ _ _ _ q)⟩
theorem wipe_set {σ : L2.St} {o : Option V} : ∀ {ts : List Nat} {i : Nat}, i ∈ ts → wipe (σ.set i o) ts = wipe σ ts := fun {ts i} h => by
  apply List.ext_getElem?
  intro j
  have key : ∀ (ρ : L2.St) (l : List Nat), (wipe ρ l)[j]? = if j ∈ l ∧ j < ρ.length then some none else ρ[j]? := by
    intro ρ l
    induction l with
    | nil => simp [wipe]
    | cons v vs ih =>
      unfold L2.wipe
      by_cases hv : v = j
      · subst hv
        by_cases hl : v < ρ.length
        · rw [List.getElem?_set_self (by rw [wipe_length]; exact hl), if_pos ⟨List.mem_cons_self .., hl⟩]
        · rw [List.getElem?_eq_none (by rw [List.length_set, wipe_length]; omega), if_neg (fun q => hl q.2), List.getElem?_eq_none (by omega)]
      · rw [List.getElem?_set_ne hv, ih]
        by_cases hm : j ∈ vs ∧ j < ρ.length
        · rw [if_pos hm, if_pos ⟨List.mem_cons_of_mem _ hm.1, hm.2⟩]
        · rw [if_neg hm, if_neg (fun q => hm ⟨(List.mem_cons.mp q.1).resolve_left (fun e => hv e.symm), q.2⟩)]
  rw [key, key, List.length_set]
  by_cases hj : j ∈ ts ∧ j < σ.length
  · rw [if_pos hj, if_pos hj]
  · rw [if_neg hj, if_neg hj]
    by_cases hi : i = j
    · subst hi
      have : ¬ i < σ.length := fun q => hj ⟨h, q⟩
      rw [List.getElem?_eq_none (by rw [List.length_set]; omega), List.getElem?_eq_none (by omega)]
    · rw [List.getElem?_set_ne hi]
theorem wipe_sub {σ σ1 : L2.St} {ts ts' : List Nat} (h : wipe σ1 ts = wipe σ ts) (hs : ∀ i ∈ ts, i ∈ ts') : wipe σ1 ts' = wipe σ ts' := by
  have e : ∀ (ρ : L2.St) (l : List Nat), (∀ i ∈ l, i ∈ ts') → wipe (wipe ρ l) ts' = wipe ρ ts' := by
    intro ρ l
    induction l with
    | nil => intro _; rfl
    | cons v vs ih =>
      intro hl
      show wipe ((wipe ρ vs).set v none) ts' = _
      rw [wipe_set (hl v (List.mem_cons_self ..)), ih fun i hi => hl i (List.mem_cons_of_mem _ hi)]
  rw [← e σ1 ts hs, h, e σ ts hs]
theorem QG.sub {ι : Im} {σ : L2.St} {ts ts' : List Nat} {Q : L2.St → Hp → Prop} {σ' : Sl} (hs : ∀ i ∈ ts, i ∈ ts') (h : QG K C ι H σ ts' Q σ' m) : QG K C ι H σ ts Q σ' m := fun ι1 H1 σ1 S l t s w => h ι1 H1 σ1 S l t s (wipe_sub w hs)
theorem sndg_nm {i : Nat} {x : Str} (hN : X.N.Nodup) (hi : X.N[i]? = some x) (hx : Loc X.env.scope x) (hf : X.fn x = true ∨ X.env.scope.names.lookup x = some .local) : SndG X C (.Name x pos) [i] (fun w σ m => .ok (setSl σ i (some w)) m) :=
  ⟨fun _ _ => rfl, ⟨fun pins s σ H v u Q I r ⟨ι, σ', m, w, sσ, S, rv, p⟩ => (pg_name hN hi hx hf).run pins s σ H v u Q I r (by
    have hl : i < σ.length := by rw [I.len]; exact (List.getElem?_eq_some_iff.mp hi).1
    exact p ι H _ S (Le.refl ι) (Tk.refl _ H) (sσ.set hl rv) (wipe_set (List.mem_singleton.mpr rfl)))⟩⟩
theorem sndgs_nil : SndGs X C [] [] (fun _ σ m => .ok σ m) := ⟨rfl, rfl, pgs_nil.mono fun vs σ H Q ⟨ι, σ', m, ws, hl, s, S, r, p⟩ => by
  cases r with
  | nil => exact ⟨rfl, p ι H σ S (Le.refl ι) (Tk.refl _ H) s rfl⟩
  | cons _ _ => cases hl⟩
theorem SimS.at {σ' : Sl} {σ : L2.St} {ι ι1 : Im} {H1 : Hp} (s : SimS K C ι H σ' σ) (l : Le ι ι1) (t : Tk K H H1) : SimS K C ι1 H1 σ' σ := s.mono t l
theorem sndgs_cons {es : List Expr} {ts1 ts2 : List Nat} {g1 : W → Sl → M → RE Sl} {g2 : List W → Sl → M → RE Sl} (h1 : SndG X C e ts1 g1) (h2 : SndGs X C es ts2 g2) :
    SndGs X C (e :: es) (ts1 ++ ts2) (fun ws σ m => List.casesOn ws (.ok σ m) fun w ws => REbind (g1 w σ m) fun σ1 m1 => g2 ws σ1 m1) :=
  ⟨by rw [h1.nice, List.length_cons, h2.len, List.length_cons], by rw [h1.nice, List.findIdx?_cons]; simp [h2.st], (pgs_cons h1.pg h2.pgs (by rw [h1.nice]; rfl)).mono fun vs σ H Q ⟨ι, σ', m, ws, hl, s, S, r, p⟩ => by
    cases r with
    | nil => cases hl
    | cons r1 r2 =>
      refine ⟨_, _, rfl, ι, σ', m, _, s, S, r1, PostE.mono (fun σ1' m1 p1 ι1 H1 σ1 S1 l1 t1 s1 w1 => ?_) (PostE.bind p)⟩
      refine ⟨ι1, σ1', m1, _, by simpa using hl, s1, S1, r2.mono t1 l1, PostE.mono (fun σ2' m2 p2 ι2 H2 σ2 S2 l2 t2 s2 w2 => ?_) p1⟩
      refine p2 ι2 H2 σ2 S2 (l1.trans l2) (t1.trans t2) s2 ?_
      rw [wipe_sub w2 (fun i hi => List.mem_append_right _ hi), wipe_sub w1 (fun i hi => List.mem_append_left _ hi)]⟩
theorem sndg_tp {es : List Expr} {ts : List Nat} {k : Nat} {g : List W → Sl → M → RE Sl} (hc : X.calm = true) (h : SndGs X C es ts g) :
    SndG X C (.Tuple es k pos) ts (fun w σ m => match w with
      | .tup ws => ifB (Nat.beq ws.length es.length) (g ws σ m) (.er (.stuck 37))
      | _ => .er (.stuck 37)) :=
  ⟨fun _ _ => rfl, (pg_tup hc h.pgs h.len h.st).mono fun v σ H Q ⟨ι, σ', m, w, s, S, r, p⟩ => by
    cases r with
    | tup ht rs =>
      obtain ⟨hl, p⟩ := PostE.ifF p
      have hl := Nat.eq_of_beq_eq_true hl
      exact ⟨_, _, rfl, SqT.of ht, by rw [← rs.length]; exact hl, ι, σ', m, _, hl, s, S, rs, p⟩
    | _ => exact p.elim⟩
/-! ### a[b] = w -/
def tSetG (K : PySem.W.Frag) (C : Cn) (Γ : Pg) : TSet := fun o i v H Q => ∃ ι m w1 w2 w3, SimH K C ι m H ∧ RepV C (TT' K H) ι w1 o ∧ RepV C (TT' K H) ι w2 i ∧ RepV C (TT' K H) ι w3 v ∧ PostE (fun _ m1 => ∀ ι1 H1, SimH K C ι1 m1 H1 → Le ι ι1 → Tk K H H1 → Q H1) (setW Γ w1 w2 w3 m)
theorem lst_put (S : SimH K C ι m H) {n : Ad} {a : Addr} {vs us : List V} {ws xs : List W} (hn : ι n = some a) (hm : m.get n = some (.lst xs)) (h : H a = some (.lst vs)) (r : RepVs C (TT' K H) ι ws us) : SimH K C ι (m.put n (.lst ws)) (upd H a (.lst us)) ∧ Tk K H (upd H a (.lst us)) :=
  ⟨S.put hn (S.ne_root hm (by intro z; cases z)) (.inl ⟨_, h⟩) (tk_lst h) ⟨us, upd_same, r.mono (tk_lst h) (Le.refl ι)⟩, tk_lst h⟩
theorem set_ok (R : Rng Γ C) (hu : X.A.units + 64 < cLine) : PSet X (tSetG X.K C Γ) := by
  intro pins s σ H o i v ov iv u Q I ro ri rv ⟨ι, m, w1, w2, w3, S, r1, r2, r3, p⟩
  cases r1 with
  | ref hn =>
    rename_i n a
    cases hm : m.get n with
    | none => simp only [setW, hm] at p; exact p.elim
    | some ob =>
      cases ob with
      | lst xs =>
        simp only [setW, hm] at p
        obtain ⟨vs, f2, rs⟩ := lst_at S hn hm
        cases w2 with
        | int k =>
          have p : PostE _ (liftO 26 (place xs.length k) fun j => .ok () (m.put n (.lst (xs.set j w3)))) := p
          obtain ⟨j, e1, p⟩ := PostE.liftO p
          have e1 := place_ix e1
          obtain rfl := r2.int_inv
          obtain ⟨S', t'⟩ := lst_put S hn hm f2 (rs.set r3 j)
          exact set_list pins s σ H _ _ v ov iv u Q I ro ri rv ⟨a, vs, k, j, rfl, rfl, f2, by rw [← rs.length]; exact e1, p ι _ S' (Le.refl ι) t'⟩
        | _ => exact p.elim
      | dict t kvs =>
        simp only [setW, hm] at p
        obtain ⟨hk, p⟩ := PostE.ifF p
        obtain ⟨hl, p⟩ := PostE.okL p
        obtain ⟨l, e0, p⟩ := PostE.lift p
        obtain ⟨H', g, S', t'⟩ := dict_put R.lo R.hi S hn hm hk r2 r3 (size_lt hl) e0
        obtain rfl : ov = Value.ref a := ro
        exact d_setItem (by omega) I g ri rv fun s' I' => ⟨H', I', p ι H' S' (Le.refl ι) t'⟩
      | _ => simp only [setW, hm] at p; exact p.elim
  | _ => exact p.elim
theorem sndg_ix (R : Rng Γ C) (hu : X.A.units + 64 < cLine) (ha : Snd X C a ga) (hb : Snd X C b gb) : SndG X C (.Subscript a b pos) [] (fun w σ m => REbind (ga σ m) fun x m1 => REbind (gb σ m1) fun y m2 => REbind (setW Γ x y w m2) fun _ m3 => .ok σ m3) :=
  ⟨fun _ _ => rfl, (pg_sub ha.pe hb.pe (set_ok (Γ := Γ) (C := C) R hu) (fun v => hb.nice.asg a pos X.env v)).mono fun v σ H Q ⟨ι, σ', m, w, s, S, r, p⟩ => by
    refine tG_bind s S p fun ι1 H1 w1 v1 m1 l1 t1 s1 S1 r1 p1 => ?_
    refine tG_bind s1 S1 p1 fun ι2 H2 w2 v2 m2 l2 t2 s2 S2 r2 p2 => ?_
    refine ⟨ι2, m2, w1, w2, w, S2, r1.mono t2 l2, r2, r.mono (t1.trans t2) (l1.trans l2), PostE.mono (fun _ m3 p3 ι3 H3 S3 l3 t3 => ?_) (PostE.bind p2)⟩
    exact p3 ι3 H3 σ S3 ((l1.trans l2).trans l3) ((t1.trans t2).trans t3) (s2.mono t3 l3) rfl⟩

/-! ### what is walked -/
structure IvOk (K : PySem.W.Frag) (C : Cn) (ι : Im) (H : Hp) (v : Iv) (J : L2.It) : Prop where
  stop : ∀ ι' H' m i, Le ι ι' → Tk K H H' → SimH K C ι' m H' → v.at m i = .ok none → J.stop i H'
  item : ∀ ι' H' m i w, Le ι ι' → Tk K H H' → SimH K C ι' m H' → v.at m i = .ok (some w) → J.go i H' ∧ ∀ x H2, J.yld i H' x H2 → SimH K C ι' m H2 ∧ Tk K H' H2 ∧ RepV C (TT' K H2) ι' w x
def tIv (K : PySem.W.Frag) (C : Cn) (g : Sl → M → RE Iv) : TI := fun σ H R => ∃ ι σ' m, SimS K C ι H σ' σ ∧ SimH K C ι m H ∧
  PostE (fun v m1 => ∀ ι1 H1, SimH K C ι1 m1 H1 → Le ι ι1 → Tk K H H1 → ∀ J, IvOk K C ι1 H1 v J → R J H1) (g σ' m)
structure SndI (X : Cx) (C : Cn) (tg iter : Expr) (g : Sl → M → RE Iv) : Prop where
  fold : ∀ env x, foldedSetIterable iter env x = pure x
  pi : PI X tg iter (tIv X.K C g)
theorem _root_.L2.PI.mono {tg iter : Expr} {t t' : TI} (h : PI X tg iter t) (hm : ∀ σ H R, t' σ H R → t σ H R) : PI X tg iter t' := ⟨fun pins s σ H R I q => h.run pins s σ H R I (hm _ _ _ q)⟩
theorem iv_tup {xs : List W} {vs : List V} {p : Addr} (ht : H p = some (.tup vs)) (rs : RepVs C (TT' K H) ι xs vs) : IvOk K C ι H (.tup xs) (Itt K p) := by
  refine ⟨fun ι' H' m i l t S e => ?_, fun ι' H' m i w l t S e => ?_⟩
  · have e : (Except.ok (nth xs i) : Except Er (Option W)) = .ok none := e
    injection e with e
    rw [nth_eq] at e
    have h2 : H' p = some (.tup vs) := t.tup p vs ht
    exact ⟨vs, SqT.of h2, by rw [← rs.length]; exact List.getElem?_eq_none_iff.mp e⟩
  · have e : (Except.ok (nth xs i) : Except Er (Option W)) = .ok (some w) := e
    injection e with e
    rw [nth_eq] at e
    have h2 : H' p = some (.tup vs) := t.tup p vs ht
    obtain ⟨v, e1, q⟩ := (rs.mono t l).get e
    refine ⟨⟨vs, v, SqT.of h2, e1⟩, fun x H2 y => ?_⟩
    obtain ⟨rfl, y⟩ := y
    have := y vs (SqT.of h2)
    rw [e1] at this; cases this
    exact ⟨S, Tk.refl _ _, q⟩
theorem atL_inv {n : Ad} {f : List W → Option W} {o : Option W} (h : atL n f m = .ok o) : ∃ xs, m.get n = some (.lst xs) ∧ f xs = o := by
  unfold atL at h
  split at h
  · rename_i e
    injection h with h
    exact ⟨_, e, h⟩
  · cases h
theorem iv_lst {n : Ad} {a : Addr} (hn : ι n = some a) : IvOk K C ι H (.lst n) (Itl K a) := by
  refine ⟨fun ι' H' m i l t S e => ?_, fun ι' H' m i w l t S e => ?_⟩
  · obtain ⟨xs, e1, e2⟩ := atL_inv (show atL n (fun xs => nth xs i) m = .ok none from e)
    obtain ⟨vs, f2, rs⟩ := lst_at S (l n a hn) e1
    rw [nth_eq] at e2
    exact ⟨vs, SqL.of f2, by rw [← rs.length]; exact List.getElem?_eq_none_iff.mp e2⟩
  · obtain ⟨xs, e1, e2⟩ := atL_inv (show atL n (fun xs => nth xs i) m = .ok (some w) from e)
    obtain ⟨vs, f2, rs⟩ := lst_at S (l n a hn) e1
    rw [nth_eq] at e2
    obtain ⟨v, e3, q⟩ := rs.get e2
    refine ⟨⟨vs, v, SqL.of f2, e3⟩, fun x H2 y => ?_⟩
    obtain ⟨rfl, y⟩ := y
    have := y vs (SqL.of f2)
    rw [e3] at this; cases this
    exact ⟨S, Tk.refl _ _, q⟩
theorem iv_rng {lo : Int} {n : Nat} : IvOk K C ι H (.rng lo n) (Itr lo n) := by
  refine ⟨fun ι' H' m i l t S e => ?_, fun ι' H' m i w l t S e => ?_⟩
  · have e : (Except.ok (Bool.rec none (some (.int (lo + Int.ofNat i))) (Nat.blt i n)) : Except Er (Option W)) = .ok none := e
    cases hb : Nat.blt i n with
    | true => rw [hb] at e; cases e
    | false =>
      show n ≤ i
      exact Nat.le_of_not_lt fun q => by rw [Nat.blt_eq.mpr q] at hb; cases hb
  · have e : (Except.ok (Bool.rec none (some (.int (lo + Int.ofNat i))) (Nat.blt i n)) : Except Er (Option W)) = .ok (some w) := e
    cases hb : Nat.blt i n with
    | false => rw [hb] at e; cases e
    | true =>
      rw [hb] at e
      cases e
      refine ⟨Nat.blt_eq.mp hb, fun x H2 y => ?_⟩
      obtain ⟨rfl, rfl⟩ := y
      exact ⟨S, Tk.refl _ _, .int _⟩
/-- a list or a tuple, walked -/
theorem pi_seq {l tg : Expr} {tl : TE} (hl : PE X l tl) : PI X tg l (fun σ H R => tl σ H fun x H1 => (∃ a, x = .ref a ∧ (∃ xs, SqL X.K H1 a xs) ∧ R (Itl X.K a) H1) ∨ ∃ a, x = .ref a ∧ (∃ xs, SqT X.K H1 a xs) ∧ R (Itt X.K a) H1) := by
  refine ⟨fun pins s σ H R I h => ?_⟩
  refine thn (hl.run pins s σ H _ I h) fun v s1 ⟨x, H1, I1, r1, q1⟩ => ?_
  have new : ∀ (ob : Obj), ∀ b ∈ [s1.heap.objs.size], FpOk X pins H1 b := fun ob b hb => by
    have e : b = s1.heap.objs.size := by simpa using hb
    subst e
    exact I1.fpOk (Nat.le_refl _) (I1.hok.fresh (Nat.le_refl _))
  rcases q1 with ⟨a, rfl, ⟨xs, hq⟩, q⟩ | ⟨a, rfl, ⟨xs, hq⟩, q⟩
  · cases r1
    obtain ⟨its, rv, p, hz⟩ := I1.list hq
    refine wpAny_pyIter_list p.isList ?_
    exact ⟨s1.heap.objs.size, [s1.heap.objs.size], _, _, H1, rfl, I1.kept (t' := s1.toks) fun b o e => Heap.get?_push_of_some _ e, turn_list a _, ⟨_, Heap.get?_push_size _ rfl, rfl, rfl⟩, new default, q⟩
  · cases r1
    obtain ⟨its, rv, p, hz⟩ := I1.tuple hq
    refine wpAny_pyIter_tuple (show s1.heap.IsTuple a its.toArray from p) ?_
    exact ⟨s1.heap.objs.size, [s1.heap.objs.size], _, _, H1, rfl, I1.kept (t' := s1.toks) fun b o e => Heap.get?_push_of_some _ e, turn_tuple a _, ⟨_, Heap.get?_push_size _ rfl, rfl, rfl⟩, new default, q⟩
theorem sndi_seq {tg : Expr} (ha : Snd X C a ga) : SndI X C tg a (fun σ m => REbind (ga σ m) fun w m1 => liftI (seqIv m1 w) m1) :=
  ⟨ha.nice.fold, (pi_seq ha.pe).mono fun σ H R ⟨ι, σ', m, s, S, p⟩ => by
    refine tG_bind s S p fun ι1 H1 w v m1 l1 t1 s1 S1 r1 p1 => ?_
    obtain ⟨iv, e, p1⟩ := PostE.lift p1
    have p1 := p1 ι1 H1 S1 l1 t1
    cases r1 with
    | tup ht rs =>
      cases e
      exact .inr ⟨_, rfl, ⟨_, SqT.of ht⟩, p1 _ (iv_tup ht rs)⟩
    | ref hn =>
      rename_i n a
      cases hm : m1.get n with
      | none => simp only [seqIv, hm] at e; cases e
      | some o =>
        cases o with
        | lst xs =>
          simp only [seqIv, hm] at e
          cases e
          obtain ⟨vs, f2, rs⟩ := lst_at S1 hn hm
          exact .inl ⟨_, rfl, ⟨_, SqL.of f2⟩, p1 _ (iv_lst hn)⟩
        | _ => simp only [seqIv, hm] at e; cases e
    | _ => cases e⟩
end
end
end Jw

/-! enumerate over a tuple or a list. -/
namespace Jw
open PySem PySem.Spec PyProof.Rows L2
noncomputable section
set_option maxHeartbeats 1000000 in
theorem meets_enum1 {v : Value} {o : Obj} {H : Heap → Prop} (B : Begins v o H) :
    Meets (Builtin.«enumerate.__new__» ⟨[.type "enumerate", v], []⟩) (fun _ R s => H s.heap ∧
      R (.ok (.ret (.ref (s.heap.push o).objs.size))) { s with heap := (s.heap.push o).push { cls := .type "enumerate", data := .fields #[.none, .bool false, .ref s.heap.objs.size, rawInt 0, .none, .none] } }) :=
  .of_wp fun prog w A R s h => by
    obtain ⟨hp, g, d, tk, os⟩ := s; obtain ⟨h1, h⟩ := h
    have hsub := sub_enumerate
    have q1 : ∀ {A' : Around} {E : Value → Shared → Prop} {Q : Value → Shared → Prop}, Q (.ref hp.objs.size) ⟨hp.push o, g, d, tk, os⟩ → wpAny (model prog w) A' (pyIter v) Q E ⟨hp, g, d, tk, os⟩ :=
      fun q => B.iter prog w _ _ ⟨hp, g, d, tk, os⟩ _ h1 q
    wp_walk using q1
    refine wpAny_stack_any fun st => wpAny_pure ?_
    split
    · rename_i c _ _ _ _ _
      cases (c == Value.type "enumerate")
      · wp_walk using q1
        exact ⟨_, rfl, h⟩
      · wp_walk using q1
        exact ⟨_, rfl, h⟩
    · wp_walk using q1
      exact ⟨_, rfl, h⟩
theorem enum1_begins {prog : Program} {w : World} {A : Around} {E : Value → Shared → Prop} {s : Shared} {v : Value} {o : Obj} {H : Heap → Prop} {Q : Value → Shared → Prop} (B : Begins v o H) (h1 : H s.heap)
    (h : ∀ h', IsEnum h' (s.heap.objs.size + 1) s.heap.objs.size 0 .none → h'.get? s.heap.objs.size = some o → h'.objs.size = s.heap.objs.size + 2 →
      (∀ b o, s.heap.get? b = some o → h'.get? b = some o) → Q (.ref (s.heap.objs.size + 1)) { s with heap := h' }) :
    wpAny (model prog w) A (call (.type "enumerate") [v]) Q E s := by
  refine callType_new F.called_enumerate (by decide) (F.typeCall_enumerate_1 _) (F.newCall_enumerate_1 _) (fun obj => F.args_object_init_2 obj _) F.entry_enumerate_new
    (meets_enum1 B) ⟨h1, ?_⟩
  have hz : (s.heap.push o).objs.size = s.heap.objs.size + 1 := Heap.size_push ..
  show _ ∧ _
  rw [hz]
  have he : IsEnum ((s.heap.push o).push { cls := .type "enumerate", data := .fields #[.none, .bool false, .ref s.heap.objs.size, rawInt 0, .none, .none] }) (s.heap.objs.size + 1) s.heap.objs.size 0 .none := by
    have := Heap.get?_push_size (s.heap.push o) (o := { cls := .type "enumerate", data := .fields #[.none, .bool false, .ref s.heap.objs.size, rawInt 0, .none, .none] }) rfl
    rw [hz] at this; exact this
  refine ⟨⟨_, he, rfl⟩, h _ he (Heap.get?_push_of_some _ (Heap.get?_push_size _ B.free)) (by rw [Heap.size_push, hz]) fun b o' e => Heap.get?_push_of_some _ (Heap.get?_push_of_some _ e)⟩
theorem enum_end_tup {prog : Program} {w : World} {A : Around} {E : Value → Shared → Prop} {s : Shared} {e it t : Addr} {i : Nat} {k : Int} {items : Array Value} {old : Value} {Q : Option Value → Shared → Prop} (hh : A.handled = none) (he : IsEnum s.heap e it k old) (hit : s.heap.IsTupleIter it t i) (ht : s.heap.IsTuple t items)
    (hx : items[i]? = none) (hQ : ∀ h', Heap.ExtBut it s.heap h' → Q none { s with heap := h' }) : wpAny (model prog w) A (pyNext (.ref e)) Q E s := by
  have hT : s.TypeIs (.ref e) "enumerate" := ⟨_, he, rfl⟩
  unfold pyNext
  refine wpAny_bind (wpAny_attempt (wpAny_callSpecial?_slot (name := Str.ofString "__next__") hT F.slot_enumerate_next
    (wpAny_call_entry F.slot_enumerate_next hT F.entry_enumerate_next ?_ (F.args_enumerate_next_1 _))))
  show wpAny _ _ (field (.ref e) 2 >>= _) _ _ _
  refine wpAny_bind (wpAny_field he rfl (x := .ref it) rfl ?_)
  refine wpAny_bind (wpAny_nextOf_tuple_end (A := A.in1) hh hit ht hx fun h' x he' hx' => ?_)
  obtain ⟨o, ho, hc⟩ := hx'
  refine wpAny_bind (wpAny_isInstance (T := "StopIteration") (b := true) ⟨o, ho, hc⟩ isSubtype_stop ?_)
  exact wpAny_pure (hQ _ he')
/-- the tuple at a, each item in a new pair -/
def Itet (K : PySem.W.Frag) (a : Addr) : L2.It :=
  ⟨fun i H => ∃ (xs : List V) (x : V), SqT K H a xs ∧ xs[i]? = some x, fun i H v H' => ∃ T x, v = .ref T ∧ H T = none ∧ H' = upd H T (.tup [.int (i : Nat), x]) ∧ ∀ xs, SqT K H a xs → xs[i]? = some x, fun i H => ∃ xs : List V, SqT K H a xs ∧ xs.length ≤ i⟩
theorem turn_enumT {P : Program} {w : World} {K : PySem.W.Frag} {elts : List Expr} {kk : Nat} {tpos : Pos} (a e it : Addr) :
    Turn P w K (.Tuple elts kk tpos) (Itet K a) [e, it] e (fun i h => (∃ old, IsEnum h e it ((i : Nat) : Int) old) ∧ h.IsTupleIter it a i ∧ e ≠ it) where
  mem := by simp
  obj := fun i h st b hb => by
    obtain ⟨⟨old, he⟩, ⟨o, ho, hc, hd⟩, _⟩ := st
    have e' : b = e ∨ b = it := by simpa using hb
    rcases e' with z | z
    · rw [z]; exact ⟨_, he, fun v q => nomatch q⟩
    · rw [z]; exact ⟨o, ho, fun v q => by rw [hd] at q; cases q⟩
  keep := fun i h h' st k => let ⟨⟨old, he⟩, hi, hne⟩ := st; ⟨⟨old, k e (by simp) _ he⟩, hi.at fun o q => k it (by simp) o q, hne⟩
  item := by
    intro X hP hw hK hc i pins s σ H E I hf st hg
    subst hP hw hK
    obtain ⟨⟨old, he⟩, hit, hne⟩ := st
    obtain ⟨xs, x, hq, hx⟩ := hg
    obtain ⟨its, rv, p, hz⟩ := I.tuple hq
    obtain ⟨u, hu, ru⟩ := rv.get hx
    have hel : e < s.heap.objs.size := Heap.lt_size he
    have hil : it < s.heap.objs.size := by obtain ⟨_, q, _⟩ := hit; exact Heap.lt_size q
    have hai : a ≠ it := fun z => by
      obtain ⟨o, e1, c1, _⟩ := p
      obtain ⟨o', e2, c2, _⟩ := hit
      rw [z, e2] at e1; cases e1
      rw [c2] at c1; exact absurd c1 (by decide)
    have hea : e ≠ a := fun z => by
      obtain ⟨o, e1, c1, _⟩ := p
      rw [← z, he] at e1; cases e1
      exact absurd (show Value.type "enumerate" = Value.type "tuple" from c1) (by decide)
    have hlt : i < its.toArray.size := by
      have := (List.getElem?_eq_some_iff.mp hu).1
      simpa using this
    refine wpAny_pyNext_enum_itemD (Draws.tuple (A := X.A.in1) (I.ok.hd hc) it a hai its.toArray) he ⟨hit, show s.heap.IsTuple a its.toArray from p⟩ hlt hne (by simp; exact ⟨hne, hea⟩) fun x' h' tk hP ho hs' hT hsz hk => ?_
    have ex : x' = u := by
      have hP : its.toArray[i]? = some x' := hP
      have : its.toArray[i]? = some u := by simpa using hu
      rw [this] at hP; exact (Option.some.inj hP).symm
    subst ex
    refine ⟨_, rfl, wpAny_letOwnedTupleGo_enum (s := { s with heap := h', toks := tk + 1 }) ho fun h'' he' sb => ?_⟩
    have hT2 : h''.get? s.heap.objs.size = some { cls := .type "tuple", data := .seq #[.int i tk, x'] } := (sb.2 _ (Nat.ne_of_gt hel)).trans hT
    have new : ObjOk X.prog X.w (upd H s.heap.objs.size (.tup [.int (i : Nat), x])) h'' s.heap.objs.size (.tup [.int (i : Nat), x]) :=
      ⟨by show 2 ≤ sizeLine; decide, [.int i tk, x'], .cons ⟨_, rfl⟩ (.cons ru .nil), ⟨_, hT2, rfl, _, rfl⟩⟩
    have I1 : Inv X pins σ (upd H s.heap.objs.size (.tup [.int (i : Nat), x])) { s with heap := h'', toks := tk + 1 } :=
      I.turnedNew (ch := [e, it]) (fun b ob hb q => (sb.2 b (fun z => hb (by simp [z]))).trans (hk b ob (fun z => hb (by simp [z])) (fun z => hb (by simp [z])) q)) hf (Nat.le_refl _) new
    refine ⟨.ref s.heap.objs.size, _, I1, rfl, ⟨_, x, rfl, I.hok.fresh (Nat.le_refl _), rfl, fun ys hy => by rw [I.tuple_inj hy hq]; exact hx⟩, ⟨⟨x', ?_⟩, hs'.1.at fun o q => (sb.2 it (Ne.symm hne)).trans q, hne⟩, fun b hb => ?_⟩
    · have e1 : ((i + 1 : Nat) : Int) = (i : Int) + 1 := by omega
      rw [e1]; exact he'
    · have hb' : b < s.heap.objs.size := by
        have e' : b = e ∨ b = it := by simpa using hb
        rcases e' with z | z
        · rw [z]; exact hel
        · rw [z]; exact hil
      rw [upd_ne (Nat.ne_of_lt hb')]
      exact (hf b hb).1
  done := by
    intro X hP hw hK hc i pins s σ H E I hf st hg
    subst hP hw hK
    obtain ⟨⟨old, he⟩, hit, hne⟩ := st
    obtain ⟨xs, hq, hx⟩ := hg
    obtain ⟨its, rv, p, hz⟩ := I.tuple hq
    obtain ⟨f0, f1, f2, f3, f4, f5⟩ := hf it (by simp)
    have hl := rv.length
    exact enum_end_tup (I.ok.hd hc) he hit (show s.heap.IsTuple a its.toArray from p) (by simp; omega) fun h' eb => ⟨rfl, I.turned (t' := s.toks) (fun b o hb q => eb b o hb q) f0 f1 f3 f4 f5⟩
  self := fun A i s Q E st h => let ⟨⟨_, he⟩, _⟩ := st; wpAny_pyIter_enum he h
section
variable {X : Cx} {C : Cn} {K : PySem.W.Frag} {ι : Im} {H : Hp} {m : M} {Q : VK} {Γ : Pg} {g ga gb gc gd : Sl → M → RE W} {a b c e d : Expr} {pos : Pos}
theorem pi_enumS {e : Expr} {te : TE} {p pos tpos : Pos} {elts : List Expr} {kk : Nat} (hg : Gl X "enumerate") (hm : X.mg "enumerate" = none) (ha : PE X e te) (hs : starEach [e] X.env = [(false, eval e X.env)]) :
    PI X (.Tuple elts kk tpos) (.Call (.Name "enumerate" p) [e] [] pos) (fun σ H R => te σ H fun x H1 => (∃ a xs, x = .ref a ∧ SqL X.K H1 a xs ∧ R (Ite X.K a) H1) ∨ ∃ a xs, x = .ref a ∧ SqT X.K H1 a xs ∧ R (Itet X.K a) H1) := by
  refine ⟨fun pins s σ H R I h => ?_⟩
  have he : starEach [e] X.env = (false, eval e X.env) :: starEach [] X.env := hs
  refine Call_ (ld_blt I hg hm boot_enumerate (PyProof.Rows.callWith_type1 (one_arg ha I h (fun v s1 x H1 I1 r1 q1 => ?_) he) hs rfl))
  have fp : ∀ b ∈ [s1.heap.objs.size + 1, s1.heap.objs.size], FpOk X pins H1 b := fun b hb => by
    have e' : b = s1.heap.objs.size + 1 ∨ b = s1.heap.objs.size := by simpa using hb
    have hle : s1.heap.objs.size ≤ b := by
      rcases e' with z | z
      · rw [z]; exact Nat.le_add_right _ _
      · rw [z]; exact Nat.le_refl _
    exact I1.fpOk hle (I1.hok.fresh hle)
  rcases q1 with ⟨a, xs, rfl, hq, q⟩ | ⟨a, xs, rfl, hq, q⟩
  · obtain rfl : v = .ref a := r1
    obtain ⟨its, rv, p', hz⟩ := I1.list hq
    refine call_enumerate_list p'.isList fun h' he hit hsz hk => wpAny_pyIter_enum he ?_
    have I2 : Inv X pins σ H1 { s1 with heap := h' } := I1.kept (t' := s1.toks) hk
    exact ⟨s1.heap.objs.size + 1, [s1.heap.objs.size + 1, s1.heap.objs.size], _, _, H1, rfl, I2, turn_enum a (s1.heap.objs.size + 1) s1.heap.objs.size, ⟨⟨.none, he⟩, hit, Nat.succ_ne_self _⟩, fp, q⟩
  · obtain rfl : v = .ref a := r1
    obtain ⟨its, rv, p', hz⟩ := I1.tuple hq
    refine enum1_begins (begins_tuple a its.toArray) (show s1.heap.IsTuple a its.toArray from p') fun h' he hit hsz hk => wpAny_pyIter_enum he ?_
    have I2 : Inv X pins σ H1 { s1 with heap := h' } := I1.kept (t' := s1.toks) hk
    exact ⟨s1.heap.objs.size + 1, [s1.heap.objs.size + 1, s1.heap.objs.size], _, _, H1, rfl, I2, turn_enumT a (s1.heap.objs.size + 1) s1.heap.objs.size, ⟨⟨.none, he⟩, ⟨_, hit, rfl, rfl⟩, Nat.succ_ne_self _⟩, fp, q⟩
theorem pair_fin (S : SimH K C ι m H) {T : Addr} {i : Nat} {w : W} {v : V} (hp : H T = none) (q : RepV C (TT' K H) ι w v) : SimH K C ι m (upd H T (.tup [.int i, v])) ∧ Tk K H (upd H T (.tup [.int i, v])) ∧ RepV C (TT' K (upd H T (.tup [.int i, v]))) ι (.tup [.int (Int.ofNat i), w]) (.ref T) :=
  ⟨simH_tup S hp, tk_new hp, .tup upd_same (.cons (.int _) (.cons (q.mono (tk_new hp) (Le.refl ι)) .nil))⟩
theorem pairI_none {i : Nat} {o : Option W} (h : pairI i o = none) : o = none := by
  cases o with
  | none => rfl
  | some w => cases h
theorem pairI_some {i : Nat} {o : Option W} {w : W} (h : pairI i o = some w) : ∃ z, o = some z ∧ w = .tup [.int (Int.ofNat i), z] := by
  cases o with
  | none => cases h
  | some z => cases h; exact ⟨z, rfl, rfl⟩
theorem iv_enT {xs : List W} {vs : List V} {p : Addr} (ht : H p = some (.tup vs)) (rs : RepVs C (TT' K H) ι xs vs) : IvOk K C ι H (.enT xs) (Itet K p) := by
  refine ⟨fun ι' H' m i l t S e => ?_, fun ι' H' m i w l t S e => ?_⟩
  · have e : (Except.ok (pairI i (nth xs i)) : Except Er (Option W)) = .ok none := e
    injection e with e
    have e := pairI_none e
    rw [nth_eq] at e
    exact ⟨vs, SqT.of (t.tup p vs ht), by rw [← rs.length]; exact List.getElem?_eq_none_iff.mp e⟩
  · have e : (Except.ok (pairI i (nth xs i)) : Except Er (Option W)) = .ok (some w) := e
    injection e with e
    obtain ⟨z, e', rfl⟩ := pairI_some e
    rw [nth_eq] at e'
    have h2 : H' p = some (.tup vs) := t.tup p vs ht
    obtain ⟨v, e1, q⟩ := (rs.mono t l).get e'
    refine ⟨⟨vs, v, SqT.of h2, e1⟩, fun x H2 y => ?_⟩
    obtain ⟨T, x', rfl, hT, rfl, y⟩ := y
    have := y vs (SqT.of h2)
    rw [e1] at this; cases this
    exact pair_fin S hT q
theorem iv_enL {n : Ad} {a : Addr} (hn : ι n = some a) : IvOk K C ι H (.enL n) (Ite K a) := by
  refine ⟨fun ι' H' m i l t S e => ?_, fun ι' H' m i w l t S e => ?_⟩
  · obtain ⟨xs, e1, e2⟩ := atL_inv (show atL n (fun xs => pairI i (nth xs i)) m = .ok none from e)
    obtain ⟨vs, f2, rs⟩ := lst_at S (l n a hn) e1
    have e2 := pairI_none e2
    rw [nth_eq] at e2
    exact ⟨vs, SqL.of f2, by rw [← rs.length]; exact List.getElem?_eq_none_iff.mp e2⟩
  · obtain ⟨xs, e1, e2⟩ := atL_inv (show atL n (fun xs => pairI i (nth xs i)) m = .ok (some w) from e)
    obtain ⟨vs, f2, rs⟩ := lst_at S (l n a hn) e1
    obtain ⟨z, e2', rfl⟩ := pairI_some e2
    rw [nth_eq] at e2'
    obtain ⟨v, e3, q⟩ := rs.get e2'
    refine ⟨⟨vs, v, SqL.of f2, e3⟩, fun x H2 y => ?_⟩
    obtain ⟨T, x', rfl, hT, rfl, y⟩ := y
    have := y vs (SqL.of f2)
    rw [e3] at this; cases this
    exact pair_fin S hT q
theorem sndi_enum {p pos tpos : Pos} {elts : List Expr} {kk : Nat} (hg : Gl X "enumerate") (hm : X.mg "enumerate" = none) (ha : Snd X C a ga) : SndI X C (.Tuple elts kk tpos) (.Call (.Name "enumerate" p) [a] [] pos) (fun σ m => REbind (ga σ m) fun w m1 => liftI (enIv m1 w) m1) :=
  ⟨fun _ _ => rfl, (pi_enumS hg hm ha.pe (ha.nice.star [] X.env)).mono fun σ H R ⟨ι, σ', m, s, S, p⟩ => by
    refine tG_bind s S p fun ι1 H1 w v m1 l1 t1 s1 S1 r1 p1 => ?_
    obtain ⟨iv, e, p1⟩ := PostE.lift p1
    have p1 := p1 ι1 H1 S1 l1 t1
    cases r1 with
    | tup ht rs =>
      cases e
      exact .inr ⟨_, _, rfl, SqT.of ht, p1 _ (iv_enT ht rs)⟩
    | ref hn =>
      rename_i n a
      cases hm : m1.get n with
      | none => simp only [enIv, hm] at e; cases e
      | some o =>
        cases o with
        | lst xs =>
          simp only [enIv, hm] at e
          cases e
          obtain ⟨vs, f2, rs⟩ := lst_at S1 hn hm
          exact .inl ⟨_, _, rfl, SqL.of f2, p1 _ (iv_enL hn)⟩
        | _ => simp only [enIv, hm] at e; cases e
    | _ => cases e⟩
/-! ### range -/
theorem rngOf_inv {α : Type} {f : α → M → Prop} {x y : W} {k : Int → Nat → RE α} (p : PostE f (rngOf x y k)) : ∃ i j, x = .int i ∧ y = .int j ∧ (small i = true ∧ small j = true) ∧ PostE f (k i (j - i).toNat) := by
  unfold rngOf at p
  split at p
  · split at p
    · obtain ⟨h, p⟩ := PostE.ifF p
      rw [Bool.and_eq_true] at h
      exact ⟨_, _, rfl, rfl, h, p⟩
    · exact p.elim
  · exact p.elim
/-- what gives 0 -/
def Zero (g : Sl → M → RE W) : Prop := ∀ σ m, (∃ e, g σ m = .er e) ∨ g σ m = .ok (.int 0) m
theorem sndi_rng1 {tg : Expr} {p pos : Pos} (hg : Gl X "range") (hm : X.mg "range" = none) (h0 : Zero ga) (hb : Snd X C b gb) : SndI X C tg (.Call (.Name "range" p) [b] [] pos) (fun σ m => REbind (ga σ m) fun x m1 => REbind (gb σ m1) fun y m2 => rngOf x y fun p n => .ok (.rng p n) m2) :=
  ⟨fun _ _ => rfl, (pi_range1 hg hm (pa_cons hb.pe pa_nil (hb.nice.star _ _)) (hb.nice.star [] X.env)).mono fun σ H R ⟨ι, σ', m, s, S, p⟩ => by
    rcases h0 σ' m with ⟨e, h0⟩ | h0
    · have p : PostE _ (REbind (ga σ' m) _) := p
      rw [h0] at p; exact p.elim
    · have p : PostE _ (REbind (ga σ' m) fun x m1 => REbind (gb σ' m1) fun y m2 => rngOf x y fun p n => RE.ok (Iv.rng p n) m2) := p
      rw [h0] at p
      have p : PostE _ (REbind (gb σ' m) fun y m2 => rngOf (.int 0) y fun p n => RE.ok (Iv.rng p n) m2) := p
      refine tG_bind s S p fun ι1 H1 w v m1 l1 t1 s1 S1 r1 p1 => ?_
      obtain ⟨i, j, e1, rfl, ⟨k1, k2⟩, p1⟩ := rngOf_inv p1
      cases e1
      obtain rfl := r1.int_inv
      obtain ⟨z1, z2, z3⟩ := small_ok k2
      refine ⟨j, rfl, by omega, by omega, ?_⟩
      have q := p1 ι1 H1 S1 l1 t1 _ iv_rng
      rw [Int.sub_zero] at q
      exact q⟩
theorem sndi_rng2 {tg : Expr} {p pos : Pos} (hg : Gl X "range") (hm : X.mg "range" = none) (ha : Snd X C a ga) (hb : Snd X C b gb) : SndI X C tg (.Call (.Name "range" p) [a, b] [] pos) (fun σ m => REbind (ga σ m) fun x m1 => REbind (gb σ m1) fun y m2 => rngOf x y fun p n => .ok (.rng p n) m2) :=
  ⟨fun _ _ => rfl, (pi_range2 hg hm (pa_cons ha.pe (pa_cons hb.pe pa_nil (hb.nice.star _ _)) (ha.nice.star _ _)) (by rw [ha.nice.star, hb.nice.star]; rfl) (hb.nice.star [] X.env)).mono fun σ H R ⟨ι, σ', m, s, S, p⟩ => by
    refine tG_bind s S p fun ι1 H1 w v m1 l1 t1 s1 S1 r1 p1 => ?_
    refine tG_bind s1 S1 p1 fun ι2 H2 u y m2 l2 t2 s2 S2 r2 p2 => ?_
    obtain ⟨i, j, rfl, rfl, ⟨k1, k2⟩, p2⟩ := rngOf_inv p2
    obtain rfl := r1.int_inv
    obtain rfl := r2.int_inv
    obtain ⟨z1, z2, z3⟩ := small_ok k2
    obtain ⟨z4, z5, z6⟩ := small_ok k1
    exact ⟨i, j, rfl, ⟨by omega, by omega, by omega, by omega⟩, p2 ι2 H2 S2 (l1.trans l2) (t1.trans t2) _ iv_rng⟩⟩
end
end
end Jw

/-! Statements. -/
namespace Jw
open PySem PySem.Spec PyProof.Rows L2
noncomputable section
/-- what a statement's result must lead to -/
def PostS (E : XK) (K : PySem.W.Frag) (C : Cn) (ι : Im) (H : Hp) (D : Ends) (r : RS) : Prop :=
  RS.rec (motive := fun _ => Prop)
    (fun σ1' m1 => ∀ ι1 H1 σ1, SimH K C ι1 m1 H1 → Le ι ι1 → Tk K H H1 → SimS K C ι1 H1 σ1' σ1 → D.nx σ1 H1)
    (fun σ1' m1 => ∀ ι1 H1 σ1, SimH K C ι1 m1 H1 → Le ι ι1 → Tk K H H1 → SimS K C ι1 H1 σ1' σ1 → D.bk σ1 H1)
    (fun σ1' m1 => ∀ ι1 H1 σ1, SimH K C ι1 m1 H1 → Le ι ι1 → Tk K H H1 → SimS K C ι1 H1 σ1' σ1 → D.ct σ1 H1)
    (fun w m1 => ∀ ι1 H1 v, SimH K C ι1 m1 H1 → Le ι ι1 → Tk K H H1 → RepV C (TT' K H1) ι1 w v → D.rt v H1)
    (fun x _ m1 => QX K C ι H E x m1) (fun _ => False) (fun n _ p => ∀ d : Nat, d < n → p (.int (Int.ofNat d))) r
def tSt (E : XK) (K : PySem.W.Frag) (C : Cn) (g : Sl → M → RS) : TS := fun D σ H => ∃ ι σ' m, SimS K C ι H σ' σ ∧ SimH K C ι m H ∧ PostS E K C ι H D (g σ' m)
structure SndS (E : XK) (X : Cx) (C : Cn) (st : Stmt) (g : Sl → M → RS) : Prop where
  ps : PS X st (tSt E X.K C g)
structure SndSs (E : XK) (X : Cx) (C : Cn) (st : List Stmt) (g : Sl → M → RS) : Prop where
  pss : PSs X st (tSt E X.K C g)
section
variable {X : Cx} {C : Cn} {K : PySem.W.Frag} {ι ι1 : Im} {H H1 : Hp} {m : M} {Q : VK} {Γ : Pg} {g ga gb gc gd : Sl → M → RE W} {a b c e d : Expr} {pos : Pos} {D D' : Ends} {E : XK}
theorem _root_.L2.PS.mono {st : Stmt} {t t' : TS} (h : PS X st t) (hm : ∀ D σ H, t' D σ H → t D σ H) : PS X st t' := ⟨fun pins s σ H D I q => h.run pins s σ H D I (hm _ _ _ q)⟩
theorem _root_.L2.PSs.mono {st : List Stmt} {t t' : TS} (h : PSs X st t) (hm : ∀ D σ H, t' D σ H → t D σ H) : PSs X st t' := ⟨fun pins s σ H D I q => h.run pins s σ H D I (hm _ _ _ q)⟩
theorem PostS.base (l : Le ι ι1) (t : Tk K H H1) : ∀ {r : RS}, PostS E K C ι H D r → PostS E K C ι1 H1 D r := fun {r} => by
  induction r with
  | nx σ m => exact fun p ι2 H2 σ2 S l2 t2 s => p ι2 H2 σ2 S (l.trans l2) (t.trans t2) s
  | bk σ m => exact fun p ι2 H2 σ2 S l2 t2 s => p ι2 H2 σ2 S (l.trans l2) (t.trans t2) s
  | ct σ m => exact fun p ι2 H2 σ2 S l2 t2 s => p ι2 H2 σ2 S (l.trans l2) (t.trans t2) s
  | rt w m => exact fun p ι2 H2 v S l2 t2 s => p ι2 H2 v S (l.trans l2) (t.trans t2) s
  | exc x σ m => exact fun p => QX.base l t p
  | er e => exact id
  | draw n k ih => exact fun p d hd => ih _ (p d hd)
/-- an expression first -/
theorem SBind {α : Type} {σ' : Sl} {k : α → M → RS} : ∀ {x : RE α}, PostS E K C ι H D (SB σ' x k) → PostE (fun a m => PostS E K C ι H D (k a m)) x := fun {x} => by
  induction x with
  | ok a m => exact id
  | exc x m => exact id
  | er e => exact id
  | draw n k ih => exact fun p d hd => ih _ (p d hd)
theorem SLift {α : Type} {k : α → RS} : ∀ {x : Except Er α}, PostS E K C ι H D (SL x k) → ∃ a, x = .ok a ∧ PostS E K C ι H D (k a)
  | .ok a, h => ⟨a, rfl, h⟩
  | .error _, h => h.elim
theorem onBS_inv {w : W} {k : Bool → RS} (p : PostS E K C ι H D (onBS w k)) : ∃ b, w = .bl b ∧ PostS E K C ι H D (k b) := by
  cases w with
  | bl c => exact ⟨c, rfl, p⟩
  | _ => exact p.elim
/-- first e, then k -/
theorem tS_bind {σ' : Sl} {σ : L2.St} {k : W → M → RS} {Q : VK} (s : SimS K C ι H σ' σ) (S : SimH K C ι m H)
    (h : PostS E K C ι H D (SB σ' (g σ' m) k))
    (hQ : ∀ ι1 H1 w v m1, Le ι ι1 → Tk K H H1 → SimS K C ι1 H1 σ' σ → SimH K C ι1 m1 H1 → RepV C (TT' K H1) ι1 w v → PostS E K C ι1 H1 D (k w m1) → Q v H1) : tG K C g σ H Q :=
  ⟨ι, σ', m, s, S, PostE.mono (fun w m1 p ι1 H1 v S1 l t r => hQ ι1 H1 w v m1 l t (s.mono t l) S1 r (p.base l t)) (SBind h)⟩
/-- first e, a call, then k -/
theorem SXbind {σ' : Sl} {k : W → M → RS} : ∀ {x : RE W}, PostS E K C ι H D (SX σ' x k) → PostX (fun a m => PostS E K C ι H D (k a m)) (QX K C ι H E) x := fun {x} => by
  induction x with
  | ok a m => exact id
  | exc x m => exact id
  | er e => exact id
  | draw n k ih => exact fun p d hd => ih _ (p d hd)
/-- an expression's reading, exceptions too -/
def tGX (E : XK) (K : PySem.W.Frag) (C : Cn) (g : Sl → M → RE W) : TE := fun σ H Q => ∃ ι σ' m, SimS K C ι H σ' σ ∧ SimH K C ι m H ∧ PostX (QV K C ι H Q) (QX K C ι H E) (g σ' m)
structure SndX (E : XK) (X : Cx) (C : Cn) (e : Expr) (g : Sl → M → RE W) : Prop where
  nice : Nice e
  pe : PE X e (tGX E X.K C g)
theorem tX_bind {σ' : Sl} {σ : L2.St} {k : W → M → RS} {Q : VK} (s : SimS K C ι H σ' σ) (S : SimH K C ι m H)
    (h : PostS E K C ι H D (SX σ' (g σ' m) k))
    (hQ : ∀ ι1 H1 w v m1, Le ι ι1 → Tk K H H1 → SimS K C ι1 H1 σ' σ → SimH K C ι1 m1 H1 → RepV C (TT' K H1) ι1 w v → PostS E K C ι1 H1 D (k w m1) → Q v H1) : tGX E K C g σ H Q :=
  ⟨ι, σ', m, s, S, PostX.mono (fun w m1 p ι1 H1 v S1 l t r => hQ ι1 H1 w v m1 l t (s.mono t l) S1 r (p.base l t)) (fun _ _ => id) (SXbind h)⟩
theorem snds_retX (ha : SndX E X C a ga) : SndS E X C (.Return (some a) pos) (fun σ m => SX σ (ga σ m) fun w m1 => .rt w m1) :=
  ⟨(ps_ret ha.pe).mono fun D σ H ⟨ι, σ', m, s, S, p⟩ => tX_bind s S p fun ι1 H1 w v m1 l1 t1 s1 S1 r1 p1 => p1 ι1 H1 v S1 (Le.refl _) (Tk.refl _ _) r1⟩
theorem snds_exX (ha : SndX E X C a ga) (hs : swapsWith a none pos.line X.env = pure false) : SndS E X C (.Expr a pos) (fun σ m => SX σ (ga σ m) fun _ m1 => .nx σ m1) :=
  ⟨(ps_expr ha.pe hs).mono fun D σ H ⟨ι, σ', m, s, S, p⟩ => tX_bind s S p fun ι1 H1 w v m1 l1 t1 s1 S1 r1 p1 => p1 ι1 H1 σ S1 (Le.refl _) (Tk.refl _ _) s1⟩
theorem snds_asgX {tg : Expr} {ts : List Nat} {gt : W → Sl → M → RE Sl} (ha : SndX E X C a ga) (hg : SndG X C tg ts gt) (hs : swapsWith a (some tg) pos.line X.env = pure false) (hw : swappedStores [tg] a X.env = pure none) :
    SndS E X C (.Assign [tg] a pos) (fun σ m => SX σ (ga σ m) fun w m1 => SB σ (gt w σ m1) fun σ2 m2 => .nx σ2 m2) :=
  ⟨(ps_asg ha.pe hg.pg hs hw (by rw [hg.nice]; rfl)).mono fun D σ H ⟨ι, σ', m, s, S, p⟩ => tX_bind s S p fun ι1 H1 w v m1 l1 t1 s1 S1 r1 p1 =>
    ⟨ι1, σ', m1, w, s1, S1, r1, PostE.mono (fun σ1' m2 p2 ι2 H2 σ2 S2 l2 t2 s2 _ => p2 ι2 H2 σ2 S2 l2 t2 s2) (SBind p1)⟩⟩
theorem snds_ret (ha : Snd X C a ga) : SndS E X C (.Return (some a) pos) (fun σ m => SB σ (ga σ m) fun w m1 => .rt w m1) :=
  ⟨(ps_ret ha.pe).mono fun D σ H ⟨ι, σ', m, s, S, p⟩ => tS_bind s S p fun ι1 H1 w v m1 l1 t1 s1 S1 r1 p1 => p1 ι1 H1 v S1 (Le.refl _) (Tk.refl _ _) r1⟩
theorem snds_retN (h : ∀ σ m, (∃ e, ga σ m = .er e) ∨ ga σ m = .ok .non m) : SndS E X C (.Return none pos) (fun σ m => SB σ (ga σ m) fun w m1 => .rt w m1) :=
  ⟨ps_retN.mono fun D σ H ⟨ι, σ', m, s, S, p⟩ => by
    rcases h σ' m with ⟨e, h⟩ | h
    · have p : PostS _ _ _ _ _ _ (SB σ' (ga σ' m) _) := p
      rw [h] at p; exact p.elim
    · have p : PostS E X.K C ι H D (SB σ' (ga σ' m) fun w m1 => RS.rt w m1) := p
      rw [h] at p
      exact p ι H .non S (Le.refl _) (Tk.refl _ _) .non⟩
theorem snds_ex (ha : Snd X C a ga) (hs : swapsWith a none pos.line X.env = pure false) : SndS E X C (.Expr a pos) (fun σ m => SB σ (ga σ m) fun _ m1 => .nx σ m1) :=
  ⟨(ps_expr ha.pe hs).mono fun D σ H ⟨ι, σ', m, s, S, p⟩ => tS_bind s S p fun ι1 H1 w v m1 l1 t1 s1 S1 r1 p1 => p1 ι1 H1 σ S1 (Le.refl _) (Tk.refl _ _) s1⟩
theorem snds_pas : SndS E X C (.Pass pos) (fun σ m => .nx σ m) := ⟨ps_pass.mono fun D σ H ⟨ι, σ', m, s, S, p⟩ => p ι H σ S (Le.refl _) (Tk.refl _ _) s⟩
theorem snds_doc {x j pos'} : SndS E X C (.Expr (.Constant (.str x) j pos) pos') (fun σ m => .nx σ m) := ⟨ps_doc.mono fun D σ H ⟨ι, σ', m, s, S, p⟩ => p ι H σ S (Le.refl _) (Tk.refl _ _) s⟩
theorem snds_brk : SndS E X C (.Break pos) (fun σ m => .bk σ m) := ⟨ps_break.mono fun D σ H ⟨ι, σ', m, s, S, p⟩ => p ι H σ S (Le.refl _) (Tk.refl _ _) s⟩
theorem snds_cnt : SndS E X C (.Continue pos) (fun σ m => .ct σ m) := ⟨ps_continue.mono fun D σ H ⟨ι, σ', m, s, S, p⟩ => p ι H σ S (Le.refl _) (Tk.refl _ _) s⟩
/-- code that is not reached -/
theorem snds_never {st : Stmt} {gs : Sl → M → RS} (h : ∀ K C ι H D σ m, ¬ PostS E K C ι H D (gs σ m)) : SndS E X C st gs := ⟨⟨fun pins s σ H D I ⟨ι, σ', m, s', S, p⟩ => (h _ _ _ _ _ _ _ p).elim⟩⟩
theorem sndss_nil : SndSs E X C [] (fun σ m => .nx σ m) := ⟨pss_nil.mono fun D σ H ⟨ι, σ', m, s, S, p⟩ => p ι H σ S (Le.refl _) (Tk.refl _ _) s⟩
theorem nxt_ok {σ : L2.St} {k : Sl → M → RS} : ∀ {r : RS}, PostS E K C ι H D (nxt r k) → PostS E K C ι H { D with nx := tSt E K C k D } r := fun {r} => by
  induction r with
  | nx σ m => exact fun p ι1 H1 σ1 S1 l1 t1 s1 => ⟨ι1, σ, m, s1, S1, PostS.base l1 t1 p⟩
  | bk σ m => exact id
  | ct σ m => exact id
  | rt w m => exact id
  | exc x σ m => exact id
  | er e => exact id
  | draw n k ih => exact fun p d hd => ih _ (p d hd)
theorem sndss_cons {st : Stmt} {rest : List Stmt} {gs gr : Sl → M → RS} (h1 : SndS E X C st gs) (h2 : SndSs E X C rest gr) : SndSs E X C (st :: rest) (fun σ m => nxt (gs σ m) gr) :=
  ⟨(pss_cons h1.ps h2.pss).mono fun D σ H ⟨ι, σ', m, s, S, p⟩ => ⟨ι, σ', m, s, S, nxt_ok (σ := σ) p⟩⟩
theorem snds_iff {A B : List Stmt} {gA gB : Sl → M → RS} (hc : Snd X C c gc) (hA : SndSs E X C A gA) (hB : SndSs E X C B gB) : SndS E X C (.If c A B pos) (fun σ m => SB σ (gc σ m) fun w m1 => onBS w fun t => Bool.rec (gB σ m1) (gA σ m1) t) :=
  ⟨(ps_if hc.pt hA.pss hB.pss).mono fun D σ H ⟨ι, σ', m, s, S, p⟩ => ⟨ι, σ', m, s, S, PostE.mono (fun w m1 p => by
    obtain ⟨b, e, p⟩ := onBS_inv p
    refine ⟨b, e, fun ι1 H1 S1 l1 t1 => ?_⟩
    cases b with
    | true => rw [if_pos rfl]; exact ⟨ι1, σ', m1, s.mono t1 l1, S1, p.base l1 t1⟩
    | false => rw [if_neg (by decide)]; exact ⟨ι1, σ', m1, s.mono t1 l1, S1, p.base l1 t1⟩) (SBind p)⟩⟩
/-- behind a loop's body -/
theorem turn_ok {k : Sl → M → RS} {N : L2.St → Hp → Prop} (hN : ∀ σ1' m1 ι1 H1 σ1, SimH K C ι1 m1 H1 → Le ι ι1 → Tk K H H1 → SimS K C ι1 H1 σ1' σ1 → PostS E K C ι1 H1 D (k σ1' m1) → N σ1 H1) : ∀ {r : RS}, PostS E K C ι H D (turn r k) → PostS E K C ι H { D with nx := N, ct := N, bk := D.nx } r := fun {r} => by
  induction r with
  | nx σ m => exact fun p ι1 H1 σ1 S1 l1 t1 s1 => hN _ _ ι1 H1 σ1 S1 l1 t1 s1 (PostS.base l1 t1 p)
  | bk σ m => exact id
  | ct σ m => exact fun p ι1 H1 σ1 S1 l1 t1 s1 => hN _ _ ι1 H1 σ1 S1 l1 t1 s1 (PostS.base l1 t1 p)
  | rt w m => exact id
  | exc x σ m => exact id
  | er e => exact id
  | draw n k ih => exact fun p d hd => ih _ (p d hd)
theorem snds_whl {A : List Stmt} {ih : Ev} {d : Nat} {c' : Ex} {b' : List Sx} (hx : PassesOwn (model X.prog X.w) X.A X.env X.xe) (hc : Snd X C c (fun σ m => ih.e d c' σ m)) (hA : SndSs E X C A (fun σ m => ih.s d b' σ m)) : SndS E X C (.While c A [] pos) (fun σ m => whlW ih d c' b' 2000 σ m) :=
  ⟨(ps_while hx hc.pt hA.pss).mono fun D σ H ⟨ι, σ', m, s, S, p⟩ => by
    refine ⟨fun k σ H => ∃ ι σ' m, SimS X.K C ι H σ' σ ∧ SimH X.K C ι m H ∧ PostS E X.K C ι H D (whlW ih d c' b' k σ' m), ⟨2000, ι, σ', m, s, S, p⟩, ?_⟩
    rintro k σ H ⟨ι, σ', m, s, S, p⟩
    cases k with
    | zero => exact p.elim
    | succ k =>
      have p : PostS E X.K C ι H D (SB σ' (ih.e d c' σ' m) fun w m1 => onBS w fun t => Bool.rec (.nx σ' m1) (turn (ih.s d b' σ' m1) fun σ2 m2 => whlW ih d c' b' k σ2 m2) t) := p
      refine ⟨ι, σ', m, s, S, PostE.mono (fun w m1 p => ?_) (SBind p)⟩
      obtain ⟨b, e, p⟩ := onBS_inv p
      refine ⟨b, e, fun ι1 H1 S1 l1 t1 => ?_⟩
      cases b with
      | false => rw [if_neg (by decide)]; exact p ι1 H1 σ S1 l1 t1 (s.mono t1 l1)
      | true =>
        rw [if_pos rfl]
        refine ⟨fun σ' H' => ∃ m', m' < k + 1 ∧ _, fun σ' H' h => h, ι1, σ', m1, s.mono t1 l1, S1, ?_⟩
        exact turn_ok (fun σ2' m2 ι2 H2 σ2 S2 l2 t2 s2 p2 => ⟨k, Nat.lt_succ_self k, ι2, σ2', m2, s2, S2, p2⟩) (p.base l1 t1)⟩
theorem snds_for {tg iter : Expr} {A : List Stmt} {ts : List Nat} {ih : Ev} {d : Nat} {t' : Tg} {b' : List Sx} {gi : Sl → M → RE Iv} (hx : PassesOwn (model X.prog X.w) X.A X.env X.xe) (hcalm : X.calm = true) (hi : SndI X C tg iter gi) (hg : SndG X C tg ts (fun w σ m => tgW Γ ih d t' w σ m)) (hA : SndSs E X C A (fun σ m => ih.s d b' σ m)) :
    SndS E X C (.For tg iter A [] pos) (fun σ m => SB σ (gi σ m) fun v m1 => forW Γ ih d t' b' v 2000 0 σ m1) :=
  ⟨(ps_for hx hcalm hi.pi hg.pg hA.pss (fun x => hi.fold X.env x)).mono fun D σ H ⟨ι, σ', m, s, S, p⟩ => by
    refine ⟨ι, σ', m, s, S, PostE.mono (fun v m1 p1 ι1 H1 S1 l1 t1 J hJ => ?_) (SBind p)⟩
    refine ⟨fun i k σ H => ∃ ι σ' m, Le ι1 ι ∧ Tk X.K H1 H ∧ SimS X.K C ι H σ' σ ∧ SimH X.K C ι m H ∧ PostS E X.K C ι H D (forW Γ ih d t' b' v k i σ' m), ⟨2000, ι1, σ', m1, Le.refl _, Tk.refl _ _, s.mono t1 l1, S1, p1.base l1 t1⟩, ?_⟩
    rintro i k σ H ⟨ι, σ', m, l, t, s, S, p⟩
    cases k with
    | zero => exact p.elim
    | succ k =>
      have p : PostS E X.K C ι H D (SL (v.at m i) fun o => Option.rec (.nx σ' m) (fun w => SB σ' (tgW Γ ih d t' w σ' m) fun σ1 m1 => turn (ih.s d b' σ1 m1) fun σ2 m2 => forW Γ ih d t' b' v k (i + 1) σ2 m2) o) := p
      obtain ⟨o, e, p⟩ := SLift p
      cases o with
      | none => exact .inl ⟨hJ.stop ι H m i l t S e, p ι H σ S (Le.refl _) (Tk.refl _ _) s⟩
      | some w =>
        obtain ⟨go, yl⟩ := hJ.item ι H m i w l t S e
        refine .inr ⟨go, fun σ' H' => ∃ m', m' < k + 1 ∧ _, fun σ' H' h => h, fun x H' y => ?_⟩
        obtain ⟨S2, t2, r2⟩ := yl x H' y
        refine ⟨ι, σ', m, w, s.mono t2 (Le.refl _), S2, r2, PostE.mono (fun σ1' m1 p1 ι3 H3 σ3 S3 l3 t3 s3 _ => ?_) (SBind p)⟩
        refine ⟨ι3, σ1', m1, s3, S3, ?_⟩
        exact turn_ok (fun σ2' m2 ι4 H4 σ4 S4 l4 t4 s4 p4 => ⟨k, Nat.lt_succ_self k, ι4, σ2', m2, (l.trans l3).trans l4, ((t.trans t2).trans t3).trans t4, s4, S4, p4⟩) (p1.base l3 (t2.trans t3))⟩
/-! ### assignments -/
theorem snds_asg {tg : Expr} {ts : List Nat} {gt : W → Sl → M → RE Sl} (ha : Snd X C a ga) (hg : SndG X C tg ts gt) (hs : swapsWith a (some tg) pos.line X.env = pure false) (hw : swappedStores [tg] a X.env = pure none) :
    SndS E X C (.Assign [tg] a pos) (fun σ m => SB σ (ga σ m) fun w m1 => SB σ (gt w σ m1) fun σ2 m2 => .nx σ2 m2) :=
  ⟨(ps_asg ha.pe hg.pg hs hw (by rw [hg.nice]; rfl)).mono fun D σ H ⟨ι, σ', m, s, S, p⟩ => tS_bind s S p fun ι1 H1 w v m1 l1 t1 s1 S1 r1 p1 =>
    ⟨ι1, σ', m1, w, s1, S1, r1, PostE.mono (fun σ1' m2 p2 ι2 H2 σ2 S2 l2 t2 s2 _ => p2 ι2 H2 σ2 S2 l2 t2 s2) (SBind p1)⟩⟩
/-- name = .., any rule that gives the reading tAsg t (gName i) -/
theorem snds_setBy {st : Stmt} {i : Nat} {t : TE} (h : PS X st (tAsg t (gName i))) (ht : ∀ σ H Q, tG X.K C ga σ H Q → t σ H Q) (hi : ∀ pins σ H s, Inv X pins σ H s → i < σ.length) : SndS E X C st (fun σ m => SB σ (ga σ m) fun w m1 => SB σ (.ok (setSl σ i (some w)) m1) fun σ2 m2 => .nx σ2 m2) :=
  ⟨⟨fun pins s σ H D I ⟨ι, σ', m, sσ, S, p⟩ => h.run pins s σ H D I (ht σ H _ (tS_bind sσ S p fun ι1 H1 w v m1 l1 t1 s1 S1 r1 p1 => by
    have p1 : PostS E X.K C ι1 H1 D (.nx (setSl σ' i (some w)) m1) := p1
    exact p1 ι1 H1 _ S1 (Le.refl _) (Tk.refl _ _) (s1.set (hi pins σ H s I) r1)))⟩⟩
/-- a, b = x, y (locals) -/
theorem snds_par {i j : Nat} {x y : Str} {a b : Expr} {ga gb : Sl → M → RE W} {px py pt : Pos} {kt k2 pt2} (hc : X.calm = true) (hN : X.N.Nodup) (hi : X.N[i]? = some x) (hj : X.N[j]? = some y) (hij : i ≠ j)
    (hx : X.env.scope.names.lookup x = some .local) (hy : X.env.scope.names.lookup y = some .local) (ha : Snd X C a ga) (hb : Snd X C b gb)
    (hw : swappedStores [.Tuple [.Name x px, .Name y py] kt pt] (.Tuple [a, b] k2 pt2) X.env = pure (some [x, y]))
    (hs : swapsWithSole [.Tuple [.Name x px, .Name y py] kt pt] (.Tuple [a, b] k2 pt2) pos.line X.env = pure false) :
    SndS E X C (.Assign [.Tuple [.Name x px, .Name y py] kt pt] (.Tuple [a, b] k2 pt2) pos) (fun σ m => SB σ (REbind (ga σ m) fun w m1 => REbind (REbind (gb σ m1) fun w m2 => REbind (RE.ok [] m2) fun ws m3 => .ok (w :: ws) m3) fun ws m2 => .ok (w :: ws) m2) fun ws m1 => ifB (Nat.beq ws.length 2) (.nx (parW [i, j] ws σ) m1) (.er (.stuck 42))) :=
  ⟨⟨fun pins s σ H D I ⟨ι, σ', m, sσ, S, p⟩ => (ps_par hc hN hi hj hij hx hy (pa_cons ha.pe (pa_cons hb.pe pa_nil (hb.nice.star _ _)) (ha.nice.star _ _)) hw hs).run pins s σ H D I (by
    have hli : i < σ.length := by rw [I.len]; exact (List.getElem?_eq_some_iff.mp hi).1
    have hlj : j < σ.length := by rw [I.len]; exact (List.getElem?_eq_some_iff.mp hj).1
    refine tG_bind sσ S (SBind p) fun ι1 H1 w v m1 l1 t1 s1 S1 r1 p1 => ?_
    have p1 := PostE.bind p1
    refine tG_bind s1 S1 (PostE.bind p1 |> fun z => p1) fun ι2 H2 u z m2 l2 t2 s2 S2 r2 p2 => ?_
    refine ⟨v, z, rfl, ?_⟩
    have p2 : PostS E X.K C ι H D (.nx (setSl (setSl σ' i (some w)) j (some u)) m2) := p2
    exact p2 ι2 H2 _ S2 (l1.trans l2) (t1.trans t2) ((s2.set hli (r1.mono t2 l2)).set (by rw [List.length_set]; exact hlj) r2))⟩⟩
end
end
end Jw

/-! Comprehensions. -/
namespace Jw
open PySem PySem.Spec PyProof.Rows L2
noncomputable section
section
variable {X : Cx} {C : Cn} {K : PySem.W.Frag} {ι ι1 : Im} {H H1 : Hp} {m : M} {Q : VK} {Γ : Pg} {g ga gb gc gd : Sl → M → RE W} {a b c e d : Expr} {pos : Pos}
/-- a clause's tests -/
structure SndT (X : Cx) (C : Cn) (ifs : List Expr) (g : Sl → M → RE W) : Prop where
  pt : PTs X ifs (tT X.K C g)
theorem sndt_nil : SndT X C [] (fun _ m => .ok (.bl true) m) := ⟨⟨fun pins s σ H Q I ⟨ι, σ', m, s', S, p⟩ => pts_nil.run pins s σ H Q I (by
  obtain ⟨b, e, q⟩ := p
  cases e
  exact q ι H S (Le.refl _) (Tk.refl _ _))⟩⟩
theorem sndt_one (ha : Snd X C a ga) : SndT X C [a] (fun σ m => REbind (ga σ m) fun w m1 => onB w fun k => Bool.rec (.ok (.bl false) m1) (.ok (.bl true) m1) k) :=
  ⟨⟨fun pins s σ H Q I ⟨ι, σ', m, s', S, p⟩ => (pts_one ha.pt).run pins s σ H Q I ⟨ι, σ', m, s', S, lastBB p⟩⟩⟩
theorem wipe_wipe (σ : L2.St) (ts : List Nat) : wipe (wipe σ ts) ts = wipe σ ts := by
  have e : ∀ (l : List Nat), (∀ i ∈ l, i ∈ ts) → wipe (wipe σ l) ts = wipe σ ts := by
    intro l
    induction l with
    | nil => intro _; rfl
    | cons v vs ih =>
      intro hl
      show wipe ((wipe σ vs).set v none) ts = _
      rw [wipe_set (hl v (List.mem_cons_self ..)), ih fun i hi => hl i (List.mem_cons_of_mem _ hi)]
  exact e ts fun _ h => h
/-- the item goes to the new list -/
theorem push_ok {α : Type} {D' : Ad} {D : Addr} {y : W} {v : V} {P : M → Prop} (S : SimH K C ι m H) (hD : ι D' = some D) (r : RepV C (TT' K H) ι y v) (p : PostE (fun (_ : Unit) m1 => P m1) (pushD D' y m)) :
    ∃ acc m1, H D = some (.lst acc) ∧ acc.length < sizeLine ∧ SimH K C ι m1 (upd H D (.lst (acc ++ [v]))) ∧ Tk K H (upd H D (.lst (acc ++ [v]))) ∧ P m1 := by
  unfold pushD at p
  split at p
  · rename_i acc e
    obtain ⟨hl, p⟩ := PostE.okL p
    obtain ⟨vs, f2, rs⟩ := lst_at S hD e
    obtain ⟨S', t'⟩ := lst_put S hD e f2 (rs.append (.cons r .nil))
    exact ⟨vs, _, f2, by rw [← rs.length]; exact size_lt hl, S', t', p⟩
  · exact p.elim
/-- a turn's end: the tests, the item -/
theorem turn_lc {σ1 : L2.St} {σ1' : Sl} {gt ge : Sl → M → RE W} {D' : Ad} {D : Addr} {Nx : Hp → Prop} (s : SimS K C ι H σ1' σ1) (S : SimH K C ι m H) (hD : ι D' = some D)
    (p : PostE (fun (_ : Unit) m2 => ∀ ι2 H2, SimH K C ι2 m2 H2 → Le ι ι2 → Tk K H H2 → Nx H2) (REbind (noExc (gt σ1' m)) fun c m3 => onB c fun b => ifB b (REbind (noExc (ge σ1' m3)) fun y m4 => pushD D' y m4) (.ok () m3))) :
    tT K C gt σ1 H fun b H3 => if b = true then tG K C ge σ1 H3 fun y H4 => ∃ acc, H4 D = some (.lst acc) ∧ acc.length < sizeLine ∧ Nx (upd H4 D (.lst (acc ++ [y]))) else Nx H3 := by
  refine ⟨ι, σ1', m, s, S, PostE.mono (fun c m3 p3 => ?_) (PostE.noExc (PostE.bind p))⟩
  obtain ⟨b, e, p3⟩ := onB_inv p3
  refine ⟨b, e, fun ι3 H3 S3 l3 t3 => ?_⟩
  cases b with
  | false => rw [if_neg (by decide)]; exact p3 ι3 H3 S3 l3 t3
  | true =>
    rw [if_pos rfl]
    have p3 : PostE (fun (_ : Unit) m2 => ∀ ι2 H2, SimH K C ι2 m2 H2 → Le ι ι2 → Tk K H H2 → Nx H2) (REbind (noExc (ge σ1' m3)) fun y m4 => pushD D' y m4) := p3
    refine ⟨ι3, σ1', m3, s.mono t3 l3, S3, PostE.mono (fun y m4 p4 ι4 H4 v4 S4 l4 t4 r4 => ?_) (PostE.noExc (PostE.bind p3))⟩
    obtain ⟨acc, m5, f1, f2, f3, f4, f5⟩ := push_ok (α := Unit) (P := fun m2 => ∀ ι2 H2, SimH K C ι2 m2 H2 → Le ι ι2 → Tk K H H2 → Nx H2) S4 (l4 _ _ (l3 _ _ hD)) r4 p4
    exact ⟨acc, f1, f2, f5 ι4 _ f3 (l3.trans l4) ((t3.trans t4).trans f4)⟩
theorem lc_ok {gi : Sl → M → RE Iv} {gt : W → Sl → M → RE Sl} {gf ge : Sl → M → RE W} {own : List Nat} {σ : L2.St}
    (h : tG K C (fun σ m => REbind (gi σ m) fun v m1 => REbind (walk v (fun w m => REbind (noExc (gt w (wipeW σ own) m)) fun σ2 m2 => REbind (noExc (gf σ2 m2)) fun c m3 => onB c fun b => ifB b (REbind (noExc (ge σ2 m3)) fun y m4 => pushD m1.next y m4) (.ok () m3)) 2000 0 (m1.new (.lst []))) fun _ m2 => .ok (.ref m1.next) m2) σ H Q) :
    tLc (tIv K C gi) (tGt K C own gt) (tT K C gf) (tG K C ge) own σ H Q := by
  obtain ⟨ι, σ', m, s, S, p⟩ := h
  refine ⟨ι, σ', m, s, S, PostE.mono (fun v m1 p1 ι1 H1 S1 l1 t1 J hJ => ?_) (PostE.bind p)⟩
  intro D hD
  have le0 : Le ι1 (ext ι1 m1.next D) := ext_le S1.none_next
  have S2 : SimH K C (ext ι1 m1.next D) (m1.new (.lst [])) (upd H1 D (.lst [])) := S1.new (o := .lst []) (u := .lst []) hD ⟨[], upd_same, .nil⟩
  generalize hf : (fun w m => REbind (noExc (gt w (wipeW σ' own) m)) fun σ2 m2 => REbind (noExc (gf σ2 m2)) fun c m3 => onB c fun b => ifB b (REbind (noExc (ge σ2 m3)) fun y m4 => pushD m1.next y m4) (.ok () m3) : W → M → RE Unit) = f at p1
  refine ⟨fun i k H' => ∃ ι2 m2, Le (ext ι1 m1.next D) ι2 ∧ Tk K H1 H' ∧ SimH K C ι2 m2 H' ∧ PostE (fun (_ : Unit) m3 => ∀ ι3 H3, SimH K C ι3 m3 H3 → Le ι2 ι3 → Tk K H' H3 → Q (.ref D) H3) (walk v f k i m2),
    ⟨2000, _, _, Le.refl _, tk_new hD, S2, PostE.mono (fun _ m3 p3 ι3 H3 S3 l3 t3 => p3 ι3 H3 (.ref D) S3 (l1.trans (le0.trans l3)) (t1.trans ((tk_new hD).trans t3)) (.ref (l3 _ _ ext_same))) (PostE.bind p1)⟩, ?_⟩
  rintro i k H' ⟨ι2, m2, l2, t2, S', p2⟩
  cases k with
  | zero => exact p2.elim
  | succ k =>
    have p2 : PostE _ (lift (v.at m2 i) fun o => Option.rec (.ok () m2) (fun w => REbind (f w m2) fun _ m1 => walk v f k (i + 1) m1) o) := p2
    obtain ⟨o, e, p2⟩ := PostE.lift p2
    cases o with
    | none => exact .inl ⟨hJ.stop ι2 H' m2 i (le0.trans l2) t2 S' e, p2 ι2 H' S' (Le.refl _) (Tk.refl _ _)⟩
    | some w =>
      obtain ⟨go, yl⟩ := hJ.item ι2 H' m2 i w (le0.trans l2) t2 S' e
      refine .inr ⟨go, fun H'' => ∃ m', m' < k + 1 ∧ _, fun H'' h => h, fun x H'' y => ?_⟩
      obtain ⟨S3, t3, r3⟩ := yl x H'' y
      have p2 : PostE _ (REbind (f w m2) fun _ m1 => walk v f k (i + 1) m1) := p2
      have p2 := PostE.bind p2
      rw [← hf] at p2
      have ss : SimS K C ι2 H'' (wipeW σ' own) (wipe σ own) := ((s.mono ((t1.trans t2).trans t3) (l1.trans (le0.trans l2))).wipe own)
      refine ⟨ι2, wipeW σ' own, m2, w, ss, S3, r3, PostE.mono (fun σ1' m4 p4 ι4 H4 σ4 S4 l4 t4 s4 w4 => ⟨by rw [w4, wipe_wipe], ?_⟩) (PostE.noExc (PostE.bind p2))⟩
      refine turn_lc (D' := m1.next) s4 S4 (l4 _ _ (l2 _ _ ext_same)) (PostE.mono (fun _ m5 p5 ι5 H5 S5 l5 t5 => ?_) p4)
      refine ⟨k, Nat.lt_succ_self k, ι5, m5, (l2.trans l4).trans l5, ((t2.trans t3).trans t4).trans t5, S5, ?_⟩
      rw [hf] at p5
      exact PostE.mono (fun _ m6 p6 ι6 H6 S6 l6 t6 => p6 ι6 H6 S6 ((l4.trans l5).trans l6) (((t3.trans t4).trans t5).trans t6)) p5
theorem QG_weak {σ : L2.St} {ts ts' : List Nat} {σ' : Sl} {ι : Im} {P : L2.St → Hp → Prop} : True := trivial
/-- the slots of a target are among a block's own -/
theorem SndG.own {ts own : List Nat} {gt : W → Sl → M → RE Sl} (h : SndG X C e ts gt) (hs : ∀ i ∈ ts, i ∈ own) : PG X e (tGt X.K C own gt) := h.pg.mono fun v σ H Q ⟨ι, σ', m, w, s, S, r, p⟩ => ⟨ι, σ', m, w, s, S, r, PostE.mono (fun σ1 m1 q => QG.sub hs q) p⟩
theorem snd_lc {tg iter : Expr} {ifs : List Expr} {scope : Scope} {own : List (Str × Nat)} {gi : Sl → M → RE Iv} {gt : W → Sl → M → RE Sl} {gf ge : Sl → M → RE W} {ts : List Nat} (hc : X.calm = true) (hN : X.N.Nodup) (hi : SndI X C tg iter gi) (ok : BlkOk X.N X.env.scope scope own) (hts : ∀ i ∈ ts, i ∈ own.map (·.2))
    (hg : ∀ (s : Shared) (H : Hp) (c : Addr) (cl : List (Str × Addr)) (fp : List Addr), SndG (X.blk s H scope (compEnvC scope cl c X.env) fp) C tg ts gt) (ht : ∀ (s : Shared) (H : Hp) (c : Addr) (cl : List (Str × Addr)) (fp : List Addr), SndT (X.blk s H scope (compEnvC scope cl c X.env) fp) C ifs gf)
    (he : ∀ (s : Shared) (H : Hp) (c : Addr) (cl : List (Str × Addr)) (fp : List Addr), Snd (X.blk s H scope (compEnvC scope cl c X.env) fp) C e ge) :
    Snd X C (.ListComp e [⟨tg, iter, ifs, 0⟩] scope pos) (fun σ m => REbind (gi σ m) fun v m1 => REbind (walk v (fun w m => REbind (noExc (gt w (wipeW σ (own.map (·.2))) m)) fun σ2 m2 => REbind (noExc (gf σ2 m2)) fun c m3 => onB c fun b => ifB b (REbind (noExc (ge σ2 m3)) fun y m4 => pushD m1.next y m4) (.ok () m3)) 2000 0 (m1.new (.lst []))) fun _ m2 => .ok (.ref m1.next) m2) :=
  Snd.val ⟨fun _ _ => rfl, fun _ _ => rfl, fun _ _ => rfl, fun op => by cases op <;> rfl, fun _ _ _ => rfl, fun _ _ _ _ => rfl⟩ ((pe_lc hc hN hi.pi ok (fun s H c cl fp => (hg s H c cl fp).own hts) (fun s H c cl fp => (ht s H c cl fp).pt) (fun s H c cl fp => (he s H c cl fp).pe) (fun x => hi.fold X.env x)).mono fun σ H Q h => lc_ok h) fun _ => rfl
/-- name = [..] on one line -/
theorem ps_lc {i : Nat} {y : Str} {py spos : Pos} {tg iter : Expr} {ifs : List Expr} {scope : Scope} {own : List (Str × Nat)} {gi : Sl → M → RE Iv} {gt : W → Sl → M → RE Sl} {gf ge : Sl → M → RE W} {ts : List Nat} (hc : X.calm = true) (hN : X.N.Nodup) (hy : X.N[i]? = some y) (hyl : X.env.scope.names.lookup y = some .local)
    (hsw : swapsWith (.ListComp e [⟨tg, iter, ifs, 0⟩] scope pos) (some (.Name y py)) spos.line X.env = pure true) (hi : SndI X C tg iter gi) (ok : BlkOk X.N X.env.scope scope own) (hts : ∀ i ∈ ts, i ∈ own.map (·.2))
    (hg : ∀ (s : Shared) (H : Hp) (c : Addr) (cl : List (Str × Addr)) (fp : List Addr), SndG (X.blk s H scope (compEnvC scope cl c X.env) fp) C tg ts gt) (ht : ∀ (s : Shared) (H : Hp) (c : Addr) (cl : List (Str × Addr)) (fp : List Addr), SndT (X.blk s H scope (compEnvC scope cl c X.env) fp) C ifs gf)
    (he : ∀ (s : Shared) (H : Hp) (c : Addr) (cl : List (Str × Addr)) (fp : List Addr), Snd (X.blk s H scope (compEnvC scope cl c X.env) fp) C e ge) :
    PS X (.Assign [.Name y py] (.ListComp e [⟨tg, iter, ifs, 0⟩] scope pos) spos) (tAsg (tG X.K C (fun σ m => REbind (gi σ m) fun v m1 => REbind (walk v (fun w m => REbind (noExc (gt w (wipeW σ (own.map (·.2))) m)) fun σ2 m2 => REbind (noExc (gf σ2 m2)) fun c m3 => onB c fun b => ifB b (REbind (noExc (ge σ2 m3)) fun y m4 => pushD m1.next y m4) (.ok () m3)) 2000 0 (m1.new (.lst []))) fun _ m2 => .ok (.ref m1.next) m2)) (gName i)) :=
  (ps_setLc hc hN hy hyl hsw hi.pi ok (fun s H c cl fp => (hg s H c cl fp).own hts) (fun s H c cl fp => (ht s H c cl fp).pt) (fun s H c cl fp => (he s H c cl fp).pe) (fun x => hi.fold X.env x)).mono fun D σ H h => lc_ok (Q := fun x H1 => gName i x σ H1 D.nx) h
end
end
end Jw

/-! xs.extend(t), t a tuple. -/
namespace Jw
open PySem PySem.Spec PyProof.Rows L2 PySem.AutoSeq1
noncomputable section
theorem meets_extendT (l : Addr) (items : Array Value) (n : Nat) (b : Addr) (items2 : Array Value) (n2 : Nat) (dd : Option Addr) (sl : Array (Option Value)) (hs0 : ¬(!items.isEmpty && Builtin.List.listTooLong (items.size + items2.size)) = true) (hs1 : items.size ≤ sizeLine) (hs2 : items.size + items2.size ≤ sizeLine + 1) :
    Meets (Builtin.«list.extend» ⟨[.ref l, .ref b], []⟩) (fun _ R s => s.heap.get? l = some { cls := .type "list", dict := none, data := .seq items n, slots := #[] } ∧ s.heap.get? b = some { cls := .type "tuple", dict := dd, data := .seq items2 n2, slots := sl } ∧ R (.ok (.ret Value.none)) { s with heap := s.heap.update l (Obj.mapSeq fun x => x ++ items2), toks := s.toks }) :=
  .of_wp fun prog w A R s h => by
    obtain ⟨hp, g, d, tk, os⟩ := s; obtain ⟨hl, hb, h⟩ := h; have f1 := idx_int; have f2 := PySem.AutoSeq1.sub_tuple_tuple; have f3 := PySem.AutoSeq1.sub_list_list; have f4 := PySem.AutoSeq1.sub_tuple_list; have f5 := PySem.AutoSeq1.sub_list_tuple;
    have hz' : (items ++ items2).size ≤ sizeLine + 1 := by rw [Array.size_append]; exact hs2
    wp_walk using (wpAny_updateSeq hl rfl (hz := hs1) (_hz' := hz')), wpAny_loadPart' hl, wpAny_loadPart' hb; exact ⟨_, rfl, h⟩
def rExtT : V → List V → Hp → VK → Prop := fun x vs H Q => ∃ l b xs zs, x = .ref l ∧ vs = [.ref b] ∧ H l = some (.lst xs) ∧ H b = some (.tup zs) ∧ xs.length + zs.length ≤ sizeLine ∧ Q .non (upd H l (.lst (xs ++ zs)))
theorem mt_extT {X : Cx} : MtM X "list.extend" rExtT := by
  intro pins s σ H x vs v us Q I rx rv h
  obtain ⟨l, b, xs, zs, rfl, rfl, hH, hB, hz, q⟩ := h
  cases rx
  obtain ⟨u, rfl, ru⟩ := rv.one
  cases ru
  obtain ⟨z, its, n, r, hl, e⟩ := I.lstM hH
  obtain ⟨its2, r2, ⟨ob, e2, hc, n2, hd⟩, z2⟩ := I.tuple (SqT.of hB)
  have hl2 := r2.length
  obtain ⟨cl, dd, da, sl⟩ := ob
  have hc : cl = .type "tuple" := hc
  have hd : da = .seq its2.toArray n2 := hd
  subst hc hd
  have hsz : its.toArray.size + its2.toArray.size ≤ sizeLine := by rw [List.size_toArray, List.size_toArray]; omega
  have hlong : ¬ (!its.toArray.isEmpty && Builtin.List.listTooLong (its.toArray.size + its2.toArray.size)) = true := by
    rw [notLongL hsz, Bool.and_false]
    exact Bool.false_ne_true
  refine call_meets F.slot_list_extend ⟨_, e, rfl⟩ F.entry_list_extend (F.args_list_extend_2 _ _)
    (meets_extendT l its.toArray n b its2.toArray n2 dd sl hlong (by rw [List.size_toArray]; omega) (by omega)) ⟨e, e2, ?_⟩
  refine ⟨.non, _, I.lset (its' := its ++ its2) hH e (by simp) (r.append r2) ?_, rfl, q⟩
  rw [List.length_append]
  omega
end
end Jw

/-! Methods of lists, calls of defs. -/
namespace Jw
open PySem PySem.Spec PyProof.Rows L2
noncomputable section
/-- not a call without arguments -/
def noBase : Expr → Bool
  | .Call (.Name _ _) [] [] _ => false
  | _ => true
theorem noBase_ok {o : Expr} {env : Env} {name : Str} (h : noBase o = true) : attributeBase o name env (eval o env) = eval o env := by
  unfold attributeBase
  cases o with
  | Call f args kws pos =>
    cases f with
    | Name id p =>
      cases args with
      | nil =>
        cases kws with
        | nil => cases h
        | cons _ _ => rfl
      | cons _ _ => rfl
    | _ => rfl
  | _ => rfl
section
variable {X : Cx} {C : Cn} {K : PySem.W.Frag} {ι ι1 : Im} {H H1 : Hp} {m : M} {Q : VK} {Γ : Pg} {g ga gb gc gd : Sl → M → RE W} {a b c e d : Expr} {pos apos cpos : Pos} {E : XK}
theorem isLst_ty (S : SimH K C ι m H) {w : W} {v : V} (r : RepV C (TT' K H) ι w v) (h : isLst m w = true) : tyV K "list" v H := by
  unfold isLst at h
  cases ht : tyW m w with
  | none => rw [ht] at h; cases h
  | some k =>
    rw [ht] at h
    have hk : k = 5 := Nat.eq_of_beq_eq_true h
    subst hk
    cases r with
    | ref hn =>
      rename_i n a
      have ht : tyO (m.get n) = some 5 := ht
      cases hm : m.get n with
      | none => rw [hm] at ht; cases ht
      | some o =>
        rw [hm] at ht
        cases o with
        | lst xs => obtain ⟨vs, f2, _⟩ := lst_at S hn hm; exact .inl ⟨rfl, vs, SqL.of f2⟩
        | _ => cases ht
    | _ => cases ht
theorem isDic_ty (S : SimH K C ι m H) {w : W} {v : V} (r : RepV C (TT' K H) ι w v) (h : isDic m w = true) : tyV K "dict" v H := by
  unfold isDic at h
  cases ht : tyW m w with
  | none => rw [ht] at h; cases h
  | some k =>
    rw [ht] at h
    have hk : k = 6 := Nat.eq_of_beq_eq_true h
    subst hk
    cases r with
    | ref hn =>
      rename_i n a
      have ht : tyO (m.get n) = some 6 := ht
      cases hm : m.get n with
      | none => rw [hm] at ht; cases ht
      | some o =>
        rw [hm] at ht
        cases o with
        | dict t kvs =>
          obtain ⟨a', e1, e2⟩ := S.ob n _ hm
          rw [hn] at e1; cases e1
          cases t with
          | false => obtain ⟨ks, h1, h2⟩ := e2; exact .inr (.inr (.inl ⟨rfl, .inl ⟨ks, h1⟩⟩))
          | true => obtain ⟨ks, h1, h2⟩ := e2; exact .inr (.inr (.inl ⟨rfl, .inr ⟨ks, h1⟩⟩))
        | _ => cases ht
    | _ => cases ht
def rM1 (K : PySem.W.Frag) (C : Cn) (g : W → M → RE W) : V → List V → Hp → VK → Prop := fun x vs H Q => vs = [] ∧ ∃ ι m w, SimH K C ι m H ∧ RepV C (TT' K H) ι w x ∧ PostE (QV K C ι H Q) (g w m)
def rM2 (K : PySem.W.Frag) (C : Cn) (g : W → W → M → RE W) : V → List V → Hp → VK → Prop := fun x vs H Q => ∃ ι m w u y, vs = [y] ∧ SimH K C ι m H ∧ RepV C (TT' K H) ι w x ∧ RepV C (TT' K H) ι u y ∧ PostE (QV K C ι H Q) (g w u m)
theorem pop_ok : MtR X "list.pop" (rM1 X.K C (qPop Γ)) := by
  intro pins s σ H x vs v us Q I rx rv ⟨e, ι, m, w, S, r, p⟩
  subst e
  obtain ⟨n, xs, rfl, hm, p⟩ := getL_inv p
  obtain ⟨w, e, p⟩ := PostE.liftO p
  rw [nth_eq] at e
  cases r with
  | ref hn =>
    obtain ⟨vs, f2, rs⟩ := lst_at S hn hm
    obtain ⟨z, e1, q⟩ := rs.get e
    obtain ⟨S', t'⟩ := lst_put S hn hm f2 rs.dropLast
    exact mt_pop pins s σ H _ _ v us Q I rx rv ⟨_, vs, z, rfl, rfl, f2, by rw [← rs.length]; exact e1, p ι _ z S' (Le.refl _) t' (q.mono t' (Le.refl _))⟩
theorem append_ok : MtR X "list.append" (rM2 X.K C (rAppend Γ)) := by
  intro pins s σ H x vs v us Q I rx rv ⟨ι, m, w, u, y, e, S, r, r2, p⟩
  subst e
  obtain ⟨n, xs, rfl, hm, p⟩ := getL_inv p
  obtain ⟨hl, p⟩ := PostE.okL p
  cases r with
  | ref hn =>
    obtain ⟨vs, f2, rs⟩ := lst_at S hn hm
    obtain ⟨S', t'⟩ := lst_put S hn hm f2 (rs.append (.cons r2 .nil))
    exact mt_append pins s σ H _ _ v us Q I rx rv ⟨_, vs, y, rfl, rfl, f2, by rw [← rs.length]; exact size_lt hl, p ι _ .non S' (Le.refl _) t' .non⟩
theorem extend_ok : MtR X "list.extend" (rM2 X.K C (rExtend Γ)) := by
  intro pins s σ H x vs v us Q I rx rv ⟨ι, m, w, u, y, e, S, r, r2, p⟩
  subst e
  obtain ⟨n, xs, rfl, hm, p⟩ := getL_inv p
  obtain ⟨ys, hm2, p⟩ := PostE.lift p
  obtain ⟨hl, p⟩ := PostE.okL p
  obtain ⟨hl2, p⟩ := PostE.okL p
  obtain ⟨b2, vs2, rfl, rs2, k2⟩ := seqI_inv S r2 hm2
  cases r with
  | ref hn =>
    obtain ⟨vs, f2, rs⟩ := lst_at S hn hm
    obtain ⟨S', t'⟩ := lst_put S hn hm f2 (rs.append rs2)
    have z1 := Nat.le_of_ble_eq_true hl
    have z2 := Nat.le_of_ble_eq_true hl2
    rcases k2 with ⟨f3, _⟩ | ⟨f3, _⟩
    · exact mt_extend pins s σ H _ _ v us Q I rx rv ⟨_, _, vs, vs2, rfl, rfl, f2, f3, by rw [← rs.length, ← rs2.length, sizeLine_eq]; omega, p ι _ .non S' (Le.refl _) t' .non⟩
    · exact mt_extT pins s σ H _ _ v us Q I rx rv ⟨_, _, vs, vs2, rfl, rfl, f2, f3, by rw [← rs.length, ← rs2.length, sizeLine_eq]; omega, p ι _ .non S' (Le.refl _) t' .non⟩
/-- o.m() of a list -/
theorem snd_m0 {name : Str} {id : String} {f : W → M → RE W} (slot : Slot "list" name id) (hty : typeOf (.builtin id) = pure (.type "method_descriptor")) (hm : MtR X id (rM1 X.K C f)) (hl : ∀ K ι H m w (Q : W → M → Prop) v, SimH K C ι m H → RepV C (TT' K H) ι w v → PostE Q (f w m) → tyV K "list" v H)
    (hb : noBase a = true) (hline : (apos.endLine == cpos.line) = true) (ha : Snd X C a ga) : Snd X C (.Call (.Attribute a name apos) [] [] cpos) (fun σ m => REbind (ga σ m) fun x m1 => f x m1) :=
  Snd.val ⟨fun _ _ => rfl, fun _ _ => rfl, fun _ _ => rfl, fun op => by cases op <;> rfl, fun _ _ _ => rfl, fun _ _ _ _ => rfl⟩ ((pe_bm0 F.plainAttrs_list slot hty hm ha.pe (noBase_ok hb) hline).mono fun σ H Q ⟨ι, σ', m, s, S, p⟩ =>
    tG_bind s S p fun ι1 H1 w v m1 l1 t1 s1 S1 r1 p1 => ⟨hl _ ι1 H1 m1 w _ v S1 r1 p1, rfl, ι1, m1, w, S1, r1, PostE.mono (fun a m => QV.base l1 t1) p1⟩) fun _ => rfl
/-- o.m(e) -/
theorem snd_m1 {T : String} {name : Str} {id : String} {f : W → W → M → RE W} {pre : M → W → Bool} (pa : PlainAttrs T) (slot : Slot T name id) (hty : typeOf (.builtin id) = pure (.type "method_descriptor")) (hm : MtR X id (rM2 X.K C f))
    (hl : ∀ K ι H m w v, SimH K C ι m H → RepV C (TT' K H) ι w v → pre m w = true → tyV K T v H) (hn : noBase a = true) (hline : (apos.endLine == cpos.line) = true) (ha : Snd X C a ga) (hb : Snd X C b gb) :
    Snd X C (.Call (.Attribute a name apos) [b] [] cpos) (fun σ m => REbind (ga σ m) fun x m1 => ifB (pre m1 x) (REbind (gb σ m1) fun y m2 => f x y m2) (.er (.stuck 52))) :=
  Snd.val ⟨fun _ _ => rfl, fun _ _ => rfl, fun _ _ => rfl, fun op => by cases op <;> rfl, fun _ _ _ => rfl, fun _ _ _ _ => rfl⟩ ((pe_bm pa slot hty hm ha.pe (pa_cons hb.pe pa_nil (hb.nice.star _ _)) (noBase_ok hn) (by rw [hb.nice.star]; rfl) hline (hb.nice.star _ _) rfl).mono fun σ H Q ⟨ι, σ', m, s, S, p⟩ =>
    tG_bind s S p fun ι1 H1 w v m1 l1 t1 s1 S1 r1 p1 => by
      obtain ⟨hp, p1⟩ := PostE.ifF p1
      refine ⟨hl _ ι1 H1 m1 w v S1 r1 hp, ?_⟩
      refine tG_bind s1 S1 p1 fun ι2 H2 u y m2 l2 t2 s2 S2 r2 p2 => ?_
      exact ⟨ι2, m2, w, u, y, rfl, S2, r1.mono t2 l2, r2, PostE.mono (fun a m => QV.base (l1.trans l2) (t1.trans t2)) p2⟩) fun _ => rfl
/-! ### calls of defs -/
/-- what a def promises: the evaluator's call of it -/
def spF (K : PySem.W.Frag) (C : Cn) (np : Nat) (gf : List W → M → RE W) : Sp := fun vs H Q E => vs.length = np ∧ ∃ ι m ws, SimH K C ι m H ∧ RepVs C (TT' K H) ι ws vs ∧ PostX (QV K C ι H Q) (QX K C ι H E) (gf ws m)
theorem snd_call {k : Nat} {x : Str} {p : Pos} {es : List Expr} {f : Addr} {fd : FuncData} {ps : List Str} {np : Nat} {gf : List W → M → RE W} {gs : Sl → M → RE (List W)} (F : FnOk X.prog X.w X.K X.mg X.base (L2.CX X.prog X.w) k f fd ps (spF X.K C np gf)) (hr : Room k X.A) (hg : Gl X x) (hm : X.mg x = some (.ref f)) (hk : PySem.W.keepIn X.K (.ref f) = true) (hb : Binds X.K fd ps [])
    (hdb : (x == ("__debug__" : Str)) = false) (ha : SndA X C (e :: es) gs) (hn : Nice e) (hlen : (e :: es).length = np) :
    Snd X C (.Call (.Name x p) (e :: es) [] pos) (fun σ m => REbind (noExc (gs σ m)) fun ws m1 => gf ws m1) :=
  Snd.val ⟨fun _ _ => rfl, fun _ _ => rfl, fun _ _ => rfl, fun op => by cases op <;> rfl, fun _ _ _ => rfl, fun _ _ _ _ => rfl⟩ ((pe_call F hr hg hm hk hb .nil (passes_call LamX.takes0 fun _ _ _ _ h => h) ha.pa hdb (hn.star _ _) (by have := ha.nos pos; rw [hn.star] at this; exact this)).mono fun σ H Q ⟨ι, σ', m, s, S, p⟩ =>
    ⟨ι, σ', m, s, S, PostE.mono (fun ws m1 ⟨hw, p1⟩ ι1 H1 vs S1 l1 t1 r1 => by
      refine ⟨by rw [List.append_nil, ← r1.length, hw]; exact hlen, ι1, m1, ws, S1, by rw [List.append_nil]; exact r1, PostX.mono (fun a m => QV.base l1 t1) (fun a m => QX.base l1 t1) (PostE.toX p1)⟩) (ha.len σ' m _ (PostE.noExc (PostE.bind p)))⟩) fun _ => rfl
/-- .. its exceptions pass -/
theorem sndx_call {k : Nat} {x : Str} {p : Pos} {es : List Expr} {f : Addr} {fd : FuncData} {ps : List Str} {np : Nat} {gf : List W → M → RE W} {gs : Sl → M → RE (List W)} (F : FnOk X.prog X.w X.K X.mg X.base (L2.CX X.prog X.w) k f fd ps (spF X.K C np gf)) (hr : Room k X.A) (hg : Gl X x) (hm : X.mg x = some (.ref f)) (hk : PySem.W.keepIn X.K (.ref f) = true) (hb : Binds X.K fd ps [])
    (hdb : (x == ("__debug__" : Str)) = false) (ha : SndA X C (e :: es) gs) (hn : Nice e) (hlen : (e :: es).length = np) (tk : Takes X (fun cls d _ H => E cls d H)) :
    SndX E X C (.Call (.Name x p) (e :: es) [] pos) (fun σ m => REbind (noExc (gs σ m)) fun ws m1 => gf ws m1) :=
  ⟨⟨fun _ _ => rfl, fun _ _ => rfl, fun _ _ => rfl, fun op => by cases op <;> rfl, fun _ _ _ => rfl, fun _ _ _ _ => rfl⟩, (pe_call F hr hg hm hk hb .nil (passes_call tk fun _ _ _ _ h => h) ha.pa hdb (hn.star _ _) (by have := ha.nos pos; rw [hn.star] at this; exact this)).mono fun σ H Q ⟨ι, σ', m, s, S, p⟩ =>
    ⟨ι, σ', m, s, S, PostE.mono (fun ws m1 ⟨hw, p1⟩ ι1 H1 vs S1 l1 t1 r1 => by
      refine ⟨by rw [List.append_nil, ← r1.length, hw]; exact hlen, ι1, m1, ws, S1, by rw [List.append_nil]; exact r1, PostX.mono (fun a m => QV.base l1 t1) (fun a m => QX.base l1 t1) p1⟩) (ha.len σ' m _ (PostX.bindN p))⟩⟩
/-- a def as a value -/
theorem snd_gf {x : Str} {j : Nat} {p : Pos} (hg : Gl X x) (hm : X.mg x = some (.ref (C.ga j))) (hd : (x == ("__debug__" : Str)) = false) : Snd X C (.Name x p) (fun σ m => .ok (.glo j) m) :=
  Snd.val ⟨fun _ _ => rfl, fun _ _ => rfl, fun _ _ => rfl, fun op => by cases op <;> rfl, fun _ _ _ => rfl, fun _ _ _ _ => rfl⟩ ((pe_glob hg hm (v := .ref (C.ga j)) rfl hd).mono fun σ H Q ⟨ι, σ', m, s, S, p⟩ => post_ok S (.glo j) p) fun _ => rfl
/-- x(e, ..), x a variable -/
theorem pe_callVar {CXx : CXT} {k i : Nat} {x : Str} {p : Pos} {es : List Expr} {t : TA} (hN : X.N[i]? = some x) (hv : Vis X.env.scope x) (hdb : (x == ("__debug__" : Str)) = false) (hcd : (x == ("__classdict__" : Str)) = false) (hr : Room k X.A) (hx : Passes CXx X E) (ha : PA X (e :: es) t)
    (he : starEach (e :: es) X.env = (false, eval e X.env) :: starEach es X.env) (hpl : (backTo pos (starEach es X.env)).any (·.1) = false) :
    PE X (.Call (.Name x p) (e :: es) [] pos) (fun σ H Q => ∃ (f : Addr) (fd : FuncData) (ps : List Str) (sp : Sp), σ[i]? = some (some (.ref f)) ∧ PySem.W.keepIn X.K (.ref f) = true ∧ FnOk X.prog X.w X.K X.mg X.base CXx k f fd ps sp ∧ Binds X.K fd ps [] ∧ t σ H fun vs H1 => sp (vs ++ []) H1 Q E) := by
  refine ⟨fun pins s σ H Q I ⟨f, fd, ps, sp, hs, hk, FO, hb, h⟩ => ?_⟩
  refine wpAny_Call_Name_kw (thn ((pe_var (pos := p) (i := i) hN hv hdb hcd).run pins s σ H (fun v H1 => v = .ref f ∧ H1 = H) I ⟨.ref f, hs, rfl, rfl⟩) fun u s0 ⟨v, H0, I0, r0, q0⟩ => ?_)
  obtain ⟨ev, eH⟩ := q0
  subst ev
  rw [eH] at I0
  obtain rfl : u = Value.ref f := r0
  refine PySem.W.callWith_K (h₀ := X.base) I0.ok.mod.kin hk (thn (ha.run pos pins s0 σ H _ I0 h) fun us s1 ⟨vs, H1, I1, r, q⟩ => ⟨I1.kIn, ?_⟩) he hpl
  exact run_fn FO hr hb .nil hx I1 r q
/-- .. what the variable may hold -/
def CalV (X : Cx) (C : Cn) (k : Nat) (ar : List Nat) (gf : Nat → List W → M → RE W) : Prop := ∀ j np, nth ar j = some np → ∃ (fd : FuncData) (ps : List Str), FnOk X.prog X.w X.K X.mg X.base (L2.CX X.prog X.w) k (C.ga j) fd ps (spF X.K C np (gf j)) ∧ PySem.W.keepIn X.K (.ref (C.ga j)) = true ∧ Binds X.K fd ps []
theorem sndx_callV {k i : Nat} {x : Str} {p : Pos} {es : List Expr} {ar : List Nat} {gf : Nat → List W → M → RE W} {gs : Sl → M → RE (List W)} (F : CalV X C k ar gf) (hN : X.N[i]? = some x) (hv : Vis X.env.scope x) (hdb : (x == ("__debug__" : Str)) = false) (hcd : (x == ("__classdict__" : Str)) = false) (hr : Room k X.A)
    (ha : SndA X C (e :: es) gs) (hn : Nice e) (tk : Takes X (fun cls d _ H => E cls d H)) :
    SndX E X C (.Call (.Name x p) (e :: es) [] pos) (fun σ m => REbind (evVr i σ m) fun w _ => onGlo w fun j => liftO 36 (nth ar j) fun k => REbind (noExc (gs σ m)) fun ws m1 => ifB (Nat.beq ws.length k) (gf j ws m1) (.er (.stuck 36))) :=
  ⟨⟨fun _ _ => rfl, fun _ _ => rfl, fun _ _ => rfl, fun op => by cases op <;> rfl, fun _ _ _ => rfl, fun _ _ _ _ => rfl⟩, (pe_callVar hN hv hdb hcd hr (passes_call tk fun _ _ _ _ h => h) ha.pa (hn.star _ _) (by have := ha.nos pos; rw [hn.star] at this; exact this)).mono fun σ H Q ⟨ι, σ', m, s, S, p⟩ => by
    unfold evVr at p
    dsimp only at p
    cases e1 : nth σ' i with
    | none => rw [e1] at p; exact p.elim
    | some o =>
      rw [e1] at p
      cases o with
      | none => exact p.elim
      | some w =>
        cases w with
        | glo j =>
          obtain ⟨v, h1, h2⟩ := s i _ e1
          cases h2
          have p : PostX (QV X.K C ι H Q) (QX X.K C ι H E) (liftO 36 (nth ar j) fun k => REbind (noExc (gs σ' m)) fun ws m1 => ifB (Nat.beq ws.length k) (gf j ws m1) (.er (.stuck 36))) := p
          cases e2 : nth ar j with
          | none => rw [e2] at p; exact p.elim
          | some np =>
            rw [e2] at p
            obtain ⟨fd, ps, FO, hk, hb⟩ := F j np e2
            refine ⟨_, fd, ps, _, h1, hk, FO, hb, ι, σ', m, s, S, PostE.mono (fun ws m1 p1 ι1 H1 vs S1 l1 t1 r1 => ?_) (PostX.bindN p)⟩
            cases hb : Nat.beq ws.length np with
            | false => rw [hb] at p1; exact p1.elim
            | true =>
              rw [hb] at p1
              refine ⟨by rw [List.append_nil, ← r1.length]; exact Nat.eq_of_beq_eq_true hb, ι1, m1, ws, S1, by rw [List.append_nil]; exact r1, PostX.mono (fun a m => QV.base l1 t1) (fun a m => QX.base l1 t1) p1⟩
        | _ => exact p.elim⟩
theorem PostX.toE' {f : W → M → Prop} : ∀ {r : RE W}, PostX f (fun _ _ => False) r → PostE f r := fun {r} => by
  induction r with
  | ok a m => exact id
  | exc x m => exact id
  | er e => exact id
  | draw n k ih => exact fun p d hd => ih _ (p d hd)
/-- no exception wanted -/
theorem SndX.snd {g : Sl → M → RE W} {a : Expr} (h : SndX (fun _ _ _ => False) X C a g) (hv : ∀ x, isTrue a X.env x = (do let v ← x; standAt a.pos; holding [v] (truthy v))) : Snd X C a g :=
  Snd.val h.nice (h.pe.mono fun σ H Q ⟨ι, σ', m, s, S, p⟩ => ⟨ι, σ', m, s, S, PostE.toX p⟩) hv
/-! ### names stored from a new tuple -/
theorem parW_eq (is : List Nat) (ws : List W) (σ : Sl) : parW is ws σ = (match is, ws with
    | i :: is, w :: ws => parW is ws (setSl σ i (some w))
    | _, _ => σ) := by
  cases is with
  | nil => rfl
  | cons i is => cases ws <;> rfl
theorem sndgs_nms (hN : X.N.Nodup) : ∀ (xs : List (Nat × Str × Pos)), (∀ p ∈ xs, X.N[p.1]? = some p.2.1 ∧ Loc X.env.scope p.2.1 ∧ (X.fn p.2.1 = true ∨ X.env.scope.names.lookup p.2.1 = some .local)) →
    SndGs X C (xs.map fun p => .Name p.2.1 p.2.2) (xs.map (·.1)) (fun ws σ m => .ok (parW (xs.map (·.1)) ws σ) m)
  | [], _ => sndgs_nil
  | p :: xs, h => by
    have h1 := h p (List.mem_cons_self ..)
    have ih := sndgs_nms hN xs fun q hq => h q (List.mem_cons_of_mem _ hq)
    have q := sndgs_cons (sndg_nm (C := C) (pos := p.2.2) hN h1.1 h1.2.1 h1.2.2) ih
    refine ⟨q.len, q.st, q.pgs.mono fun vs σ H Q ⟨ι, σ', m, ws, hl, s, S, r, p'⟩ => ⟨ι, σ', m, ws, hl, s, S, r, ?_⟩⟩
    cases ws with
    | nil => cases hl
    | cons w ws => exact p'
theorem snds_parT {es : List Expr} {x1 k : Nat} {pt pos2 : Pos} {gs : Sl → M → RE (List W)} (hc : X.calm = true) (hN : X.N.Nodup) (xs : List (Nat × Str × Pos)) (hx : ∀ p ∈ xs, X.N[p.1]? = some p.2.1 ∧ Loc X.env.scope p.2.1 ∧ (X.fn p.2.1 = true ∨ X.env.scope.names.lookup p.2.1 = some .local))
    (ha : SndA X C es gs) (hes : Nat.ble es.length 1000 = true) (hs : swapsWith (.Tuple es x1 pos2) (some (.Tuple (xs.map fun p => .Name p.2.1 p.2.2) k pt)) pos.line X.env = pure false) (hw : swappedStores [.Tuple (xs.map fun p => .Name p.2.1 p.2.2) k pt] (.Tuple es x1 pos2) X.env = pure none) :
    SndS E X C (.Assign [.Tuple (xs.map fun p => .Name p.2.1 p.2.2) k pt] (.Tuple es x1 pos2) pos) (fun σ m => SB σ (gs σ m) fun ws m1 => ifB (Nat.beq ws.length (xs.map (·.1)).length) (.nx (parW (xs.map (·.1)) ws σ) m1) (.er (.stuck 42))) :=
  have hg := sndgs_nms (C := C) hN xs hx
  ⟨(ps_asg (pe_tup ha.pa) (pg_tup (pos := pt) (k := k) hc hg.pgs hg.len hg.st) hs hw rfl).mono fun D σ H ⟨ι, σ', m, s, S, p⟩ => by
    refine ⟨ι, σ', m, s, S, PostE.mono (fun ws m1 ⟨hlen, p1⟩ ι1 H1 vs S1 l1 t1 r1 => ?_) (ha.len σ' m _ (SBind p))⟩
    cases hb : Nat.beq ws.length (xs.map (·.1)).length with
    | false => rw [hb] at p1; exact p1.elim
    | true =>
      rw [hb] at p1
      have hb := Nat.eq_of_beq_eq_true hb
      have hz : vs.length ≤ sizeLine := by rw [← r1.length, hlen]; exact size_of (Nat.ble_eq.mpr (Nat.le_trans (Nat.le_of_ble_eq_true hes) (by decide)))
      refine ⟨hz, fun q hq => ?_⟩
      refine ⟨q, vs, rfl, SqT.of upd_same, by rw [← r1.length, hb]; simp, ι1, σ', m1, ws, by rw [hb]; simp, (s.mono t1 l1).mono (tk_new hq) (Le.refl _), simH_tup S1 hq, r1.mono (tk_new hq) (Le.refl _), ?_⟩
      intro ι2 H2 σ2 S2 l2 t2 s2 _
      have p1 : PostS E X.K C ι H D (.nx (parW (xs.map (·.1)) ws σ') m1) := p1
      exact p1 ι2 H2 σ2 S2 (l1.trans l2) ((t1.trans (tk_new hq)).trans t2) s2⟩
/-! ### op= -/
def tiG (K : PySem.W.Frag) (C : Cn) (g : W → W → M → RE W) : TIp := fun x y H Q => ∃ ι m w1 w2, SimH K C ι m H ∧ RepV C (TT' K H) ι w1 x ∧ RepV C (TT' K H) ι w2 y ∧ PostE (QV K C ι H Q) (g w1 w2 m)
theorem aug_ok : ∀ o : Bo, PIp X (boP o) (tiG X.K C (augN Γ o)) := by
  intro o pins s σ H x y v u Q I rx ry ⟨ι, m, w1, w2, S, r1, r2, p⟩
  obtain ⟨hb, p⟩ := PostE.ifF p
  cases o with
  | add =>
    have p : PostE (QV X.K C ι H Q) (liftW (addN w1 w2) m) := p
    obtain ⟨w, e, p⟩ := PostE.lift p
    obtain ⟨i, j, e1, e2, r⟩ := addN_ok (C := C) e
    obtain rfl := r1.num e1
    obtain rfl := r2.num e2
    exact ip_add pins s σ H _ _ v u Q I rx ry ⟨i, j, rfl, rfl, post_ok S (r _ _) p⟩
  | sub =>
    have p : PostE (QV X.K C ι H Q) (liftW (subN w1 w2) m) := p
    obtain ⟨w, e, p⟩ := PostE.lift p
    obtain ⟨i, j, e1, e2, r⟩ := subN_ok (C := C) e
    obtain rfl := r1.num e1
    obtain rfl := r2.num e2
    exact ip_sub pins s σ H _ _ v u Q I rx ry ⟨i, j, rfl, rfl, post_ok S (r _ _) p⟩
  | _ => exact p.elim
theorem get_ok (R : Rng Γ C) (hu : X.A.units + 64 < cLine) : PGet X (rG X.K C (ixW Γ)) := by
  intro pins s σ H x y v u Q I rx ry ⟨ι, m, w1, w2, S, r1, r2, p⟩
  have hn := line63
  cases r1 with
  | tup h1 q1 =>
    obtain ⟨i, j, w, rfl, e1, e2, p⟩ := ixL_inv p
    obtain rfl := r2.int_inv
    obtain ⟨z, e3, q⟩ := atI_of q1 e1 e2
    obtain ⟨its, r, pl, hz⟩ := I.tuple (SqT.of h1)
    obtain ⟨j', h1', h2', h3', h4', h5'⟩ := atI_get e3
    obtain ⟨w', ew, rw'⟩ := r.get h2'
    have hl := r.length
    obtain rfl : v = Value.ref _ := rx
    obtain ⟨t, rfl⟩ := ry
    exact getItem_tuple (j := j') pl (by omega) (by omega) (by rw [List.size_toArray, ← hl]; exact h1') (by simpa using ew) ⟨z, H, I, rw', post_ok S q p⟩
  | ref hn =>
    rename_i n a
    cases hm : m.get n with
    | none => simp only [ixW, hm] at p; exact p.elim
    | some o =>
      cases o with
      | lst xs =>
        simp only [ixW, hm] at p
        obtain ⟨i, j, w, rfl, e1, e2, p⟩ := ixL_inv p
        obtain rfl := r2.int_inv
        obtain ⟨vs, f2, rs⟩ := lst_at S hn hm
        obtain ⟨z, e3, q⟩ := atI_of rs e1 e2
        obtain ⟨its, r, pl, hz⟩ := I.list (SqL.of f2)
        obtain ⟨j', h1, h2, h3, h4, h5⟩ := atI_get e3
        obtain ⟨w', ew, rw'⟩ := r.get h2
        have hl := r.length
        obtain rfl : v = Value.ref _ := rx
        obtain ⟨t, rfl⟩ := ry
        have fin : EP X pins σ Q w' s := ⟨z, H, I, rw', post_ok S q p⟩
        by_cases h0 : 0 ≤ i
        · have hj : i.toNat = j' := by
            rw [seqIndex_of h0 h5] at h1
            exact Option.some.inj h1
          exact wpAny_getItem_list pl.isList h0 (by omega) (by rw [hj]; simpa using ew) fin
        · have hj : (i + (its.toArray.size : Int)).toNat = j' := by
            rw [seqIndex_neg (by omega) h4] at h1
            rw [List.size_toArray, ← hl]
            exact Option.some.inj h1
          exact wpAny_getItem_list_neg pl.isList (by omega) (by rw [List.size_toArray] <;> omega) (by omega) (by rw [hj]; simpa using ew) fin
      | dict t kvs =>
        simp only [ixW, hm] at p
        obtain ⟨hk, p⟩ := PostE.ifF p
        obtain ⟨q0, e0, p⟩ := PostE.lift p
        obtain ⟨w, e1, p⟩ := PostE.liftO p
        obtain ⟨o, g, d⟩ := dict_at R.lo R.hi S hn (.inl hm) hk r2 e0
        rcases d with ⟨d1, d2⟩ | ⟨w', z, d1, d2, q⟩
        · rw [d1] at e1; cases e1
        · rw [d1] at e1; cases e1
          subst d2
          obtain rfl : v = .ref a := rx
          exact d_getItem (by omega) I g ry fun w' s' I' rw' => ⟨z, H, I', rw', post_ok S q p⟩
      | frd t kvs =>
        simp only [ixW, hm] at p
        obtain ⟨hk, p⟩ := PostE.ifF p
        obtain ⟨q0, e0, p⟩ := PostE.lift p
        obtain ⟨w, e1, p⟩ := PostE.liftO p
        obtain ⟨o, g, d⟩ := dict_at R.lo R.hi S hn (.inr hm) hk r2 e0
        rcases d with ⟨d1, d2⟩ | ⟨w', z, d1, d2, q⟩
        · rw [d1] at e1; cases e1
        · rw [d1] at e1; cases e1
          subst d2
          obtain rfl : v = .ref a := rx
          exact d_getItem (by omega) I g ry fun w' s' I' rw' => ⟨z, H, I', rw', post_ok S q p⟩
      | _ => simp only [ixW, hm] at p; exact p.elim
  | _ => exact p.elim
theorem snds_augv {i : Nat} {x : Str} {pos' : Pos} {e : Expr} {ge : Sl → M → RE W} (o : Bo) (hN : X.N.Nodup) (hi : X.N[i]? = some x) (hx : Loc X.env.scope x) (hf : X.fn x = true ∨ X.env.scope.names.lookup x = some .local) (he : Snd X C e ge) :
    SndS E X C (.AugAssign (.Name x pos') (boP o) e pos) (fun σ m => SB σ (evVr i σ m) fun x m1 => SB σ (ge σ m1) fun y m2 => SB σ (augN Γ o x y m2) fun z m3 => .nx (setSl σ i (some z)) m3) :=
  ⟨⟨fun pins s σ H D I ⟨ι, σ', m, sσ, S, p⟩ => (ps_aug hN hi hx he.pe (aug_ok (Γ := Γ) (C := C) o) hf).run pins s σ H D I (by
    have hl : i < σ.length := by rw [I.len]; exact (List.getElem?_eq_some_iff.mp hi).1
    have p := SBind p
    obtain ⟨o1, e1, p⟩ := PostE.liftO p
    obtain ⟨w, e2, p⟩ := PostE.liftO p
    subst e2
    obtain ⟨v, h1, h2⟩ := sσ i w e1
    refine ⟨v, h1, ?_⟩
    have p : PostS E X.K C ι H D (SB σ' (ge σ' m) fun y m2 => SB σ' (augN Γ o w y m2) fun z m3 => .nx (setSl σ' i (some z)) m3) := p
    refine tS_bind sσ S p fun ι1 H1 u y m1 l1 t1 s1 S1 r1 p1 => ?_
    refine ⟨ι1, m1, w, u, S1, h2.mono t1 l1, r1, PostE.mono (fun z m2 p2 ι2 H2 v2 S2 l2 t2 r2 => ?_) (SBind p1)⟩
    exact p2 ι2 H2 _ S2 l2 t2 ((s1.mono t2 l2).set hl r2))⟩⟩
theorem snds_augx {tpos : Pos} {e : Expr} {ge : Sl → M → RE W} (o : Bo) (R : Rng Γ C) (hu : X.A.units + 64 < cLine) (ha : Snd X C a ga) (hb : Snd X C b gb) (he : Snd X C e ge) :
    SndS E X C (.AugAssign (.Subscript a b tpos) (boP o) e pos) (fun σ m => SB σ (ga σ m) fun p m1 => SB σ (gb σ m1) fun q m2 => SB σ (ixW Γ p q m2) fun x m3 => SB σ (ge σ m3) fun y m4 => SB σ (augN Γ o x y m4) fun z m5 => SB σ (setW Γ p q z m5) fun _ m6 => .nx σ m6) :=
  ⟨(ps_augS ha.pe hb.pe (get_ok (Γ := Γ) (C := C) R hu) he.pe (aug_ok (Γ := Γ) (C := C) o) (set_ok (Γ := Γ) (C := C) R hu) hb.nice.aug).mono fun D σ H ⟨ι, σ', m, s, S, p⟩ => by
    refine tS_bind s S p fun ι1 H1 w1 v1 m1 l1 t1 s1 S1 r1 p1 => ?_
    refine tS_bind s1 S1 p1 fun ι2 H2 w2 v2 m2 l2 t2 s2 S2 r2 p2 => ?_
    refine ⟨ι2, m2, w1, w2, S2, r1.mono t2 l2, r2, PostE.mono (fun w3 m3 p3 ι3 H3 v3 S3 l3 t3 r3 => ?_) (SBind p2)⟩
    refine tS_bind (s2.mono t3 l3) S3 (p3.base l3 t3) fun ι4 H4 w4 v4 m4 l4 t4 s4 S4 r4 p4 => ?_
    refine ⟨ι4, m4, w3, w4, S4, r3.mono t4 l4, r4, PostE.mono (fun w5 m5 p5 ι5 H5 v5 S5 l5 t5 r5 => ?_) (SBind p4)⟩
    have T := (t3.trans t4).trans t5
    have L := (l3.trans l4).trans l5
    refine ⟨ι5, m5, w1, w2, w5, S5, (r1.mono t2 l2).mono T L, r2.mono T L, r5, PostE.mono (fun _ m6 p6 ι6 H6 S6 l6 t6 => ?_) (SBind (p5.base l5 t5))⟩
    exact p6 ι6 H6 σ S6 l6 t6 ((s4.mono t5 l5).mono t6 l6)⟩
end
end
end Jw

/-! Dicts with tuple keys: the empty display, sum(d.values()), sorted(d.items()). -/
namespace Jw
open PySem PySem.Spec PyProof.Rows L2
noncomputable section
section
variable {prog : Program} {w : World} {A : Around} {E : Value → Shared → Prop} {s : Shared}
theorem meetsVals {d : Addr} {es : Array DictEntry} {ep : Nat} (hd : (d == sysModules) = false) :
    MeetsIn prog w (Builtin.«dict.values» ⟨[.ref d], []⟩) (fun _ R s => DT.Raw s.heap d es ep ∧
      R (.ok (.ret (.ref s.heap.objs.size))) { s with heap := s.heap.push (DSub.viewOb "dict_values" d) }) :=
  .of_wp fun A R s ⟨hm, h⟩ => by
    show wpAny _ _ (Builtin.Dict.noArgs "values" ⟨[.ref d], []⟩ >>= _) _ _ s
    refine wpAny_bind ?_
    unfold Builtin.Dict.noArgs
    refine wpAny_bind (wpAny_notOrdered_dict hm.typeIs ?_)
    show wpAny _ _ (pure d) _ _ s
    refine wpAny_pure ?_
    show wpAny _ _ (Builtin.Dict.showsAll d >>= _) _ _ s
    unfold Builtin.Dict.showsAll
    rw [if_neg (by rw [hd]; exact Bool.false_ne_true)]
    refine wpAny_bind (wpAny_pure ?_)
    exact wpAny_bind (wpAny_newObj_type (wpAny_pure ⟨_, rfl, h⟩))
theorem callVals {d : Addr} {es : Array DictEntry} {ep : Nat} {Q : Value → Shared → Prop} (hd : (d == sysModules) = false) (hm : DT.Raw s.heap d es ep)
    (h : Q (.ref s.heap.objs.size) { s with heap := s.heap.push (DSub.viewOb "dict_values" d) }) : wpAny (model prog w) A (call (.builtin "dict.values") [.ref d]) Q E s :=
  call_meetsIn PySem.F.slot_dict_values hm.typeIs PySem.F.entry_dict_values (PySem.F.args_dict_values_1 _) (meetsVals (es := es) (ep := ep) hd) ⟨hm, h⟩
end
section
variable {X : Cx}
def rValsT : V → List V → Hp → VK → Prop := fun x xs H Q => ∃ (a : Addr) (kvs : List (List L2.Key × V)), x = .ref a ∧ xs = [] ∧ H a = some (.dT kvs) ∧ ∀ p, H p = none → Q (.ref p) (upd H p (viewO "dict_values" p a))
theorem mt_valsT : MtR X "dict.values" rValsT := by
  intro pins s σ H x xs v us Q I rx rxs h
  obtain ⟨a, kvs, rfl, rfl, ha, q⟩ := h
  cases rx
  cases rxs
  obtain ⟨z, hd, xs', rel, o, es, ep, ho, hx, hdat, _⟩ := dt_of I.hok ha
  refine callVals (es := es) (ep := ep) hd ⟨o, ho, hx, hdat⟩ ?_
  have hf : H s.heap.objs.size = none := I.hok.fresh (Nat.le_refl _)
  exact ⟨.ref s.heap.objs.size, upd H s.heap.objs.size (viewO "dict_values" s.heap.objs.size a), I.laid (t' := s.toks) (fun b u e => Heap.get?_push_of_some _ e) (Nat.le_refl _) (viewO_ok (Heap.get?_push_size _ rfl)), rfl, q _ hf⟩
def rSumVT : List V → Hp → VK → Prop := fun xs H Q => ∃ (p a : Addr) (kvs : List (List L2.Key × V)) (ns : List Int), xs = [.ref p] ∧ H p = some (viewO "dict_values" p a) ∧ H a = some (.dT kvs) ∧ kvs.map (·.2) = ns.map V.int ∧ Q (.int ns.sum) H
theorem cr_sumVT (hc : X.calm = true) : CallR X (.builtin "sum") rSumVT := by
  intro pins s σ H xs us Q I rx h
  obtain ⟨p, a, kvs, ns, rfl, hp, ha, hns, q⟩ := h
  rw [Vals.ref1 rx]
  obtain ⟨z, hd, xs', rel, o, es, ep, ho, hx, hdat, hes, his, hn⟩ := dt_of I.hok ha
  have hv : s.heap.get? p = some (DSub.viewOb "dict_values" a) := (show ObjOk X.prog X.w H s.heap p (viewO "dict_values" p a) from I.hok p _ hp).1
  have l1 : kvs.length = xs'.length := Paired.length rel
  have l2 : es.size = xs'.length := size_of_entries hes
  have hkn : kvs.length = ns.length := by
    have e := congrArg List.length hns
    rw [List.length_map, List.length_map] at e
    exact e
  have hsz : es.size = ns.length := by omega
  have hP : ∀ (i : Nat) (e : DictEntry), es[i]? = some e → ∃ t, e.val = .int (ns.getD i 0) t := fun i e he => by
    rw [entry_at hes i] at he
    cases hxj : xs'[i]? with
    | none => rw [hxj] at he; cases he
    | some x =>
      rw [hxj] at he
      cases he
      obtain ⟨e0, he0, r1, r2, r3⟩ := DX.pget rel hxj
      have z : (kvs.map (·.2))[i]? = (ns.map V.int)[i]? := by rw [hns]
      rw [List.getElem?_map, List.getElem?_map, he0] at z
      cases hni : ns[i]? with
      | none => rw [hni] at z; cases z
      | some j =>
        rw [hni] at z
        have z2 : e0.2 = V.int j := Option.some.inj z
        rw [z2] at r3
        obtain ⟨t, r3⟩ := r3
        refine ⟨t, ?_⟩
        rw [List.getD_eq_getElem?_getD, hni]
        exact r3
  refine call_sum_walkAnyS ?_
  refine DSub.iter_vals hv ho hdat ?_
  have hal : a < s.heap.objs.size := Heap.lt_size ho
  refine ⟨s.heap.objs.size, [s.heap.objs.size, a], [s.heap.objs.size], _, es.size, fun i v => ∃ t, v = .int (ns.getD i 0) t, _, fun i => ns.getD i 0, rfl, (DSub.walksVal (a := a) (show X.A.in1.handled = none from I.ok.hd hc) (Nat.ne_of_lt hal) hdat hP).toS, ⟨Heap.get?_push_size _ rfl, Heap.get?_push_of_some _ ho⟩, fun b hb => ?_, fun i v z => z, fun s' t' hm => ?_⟩
  · show b < (s.heap.push _).objs.size
    rw [Heap.size_push]
    rcases List.mem_cons.mp hb with e | hb
    · rw [e]; exact Nat.lt_succ_self _
    · rw [List.mem_singleton.mp hb]; exact Nat.lt_succ_of_lt hal
  · have hk : ∀ b u, s.heap.get? b = some u → s'.heap.get? b = some u := fun b u e =>
      hm.heap b u (fun hI => absurd (Heap.lt_size e) (by rw [List.mem_singleton.mp hI]; exact Nat.lt_irrefl _)) (Heap.get?_push_of_some _ e)
    rw [Moved.eq_with hm]
    have es' : preSum (fun i => ns.getD i 0) es.size = ns.sum := by
      rw [hsz, preSum_list (h := fun v => match v with | .int n => n | _ => 0) (ns.map V.int) (fun i => ns.getD i 0) (fun i x hx => by
        rw [List.getElem?_map] at hx
        cases hni : ns[i]? with
        | none => rw [hni] at hx; cases hx
        | some j =>
          rw [hni] at hx
          cases hx
          show ns.getD i 0 = j
          rw [List.getD_eq_getElem?_getD, hni]; rfl) ns.length (by rw [List.length_map]; exact Nat.le_refl _)]
      rw [List.take_of_length_le (by rw [List.length_map]; exact Nat.le_refl _), List.map_map]
      have : ((fun v => match v with | V.int n => n | _ => 0) ∘ V.int : Int → Int) = id := rfl
      rw [this, List.map_id]
    exact ⟨.int ns.sum, H, I.kept (t' := s'.toks) hk, ⟨t', by rw [es']⟩, q⟩
end
section
variable {K : PySem.W.Frag} {C : Cn} {ι : Im} {H H' : Hp} {m : M}
theorem simH_grow (S : SimH K C ι m H) (g : ∀ b o, H b = some o → H' b = some o) : SimH K C ι m H' :=
  ⟨fun n o e => by
    obtain ⟨a, e1, e2⟩ := S.ob n o e
    exact ⟨a, e1, e2.mono' (.ext g) (Le.refl ι) fun ho => by
      obtain ⟨u, hu⟩ := S.tr n a (S.ne_root e ho) e1
      rw [hu, g _ _ hu]⟩, S.inj, S.lt, fun n a h0 e => let ⟨u, hu⟩ := S.tr n a h0 e; ⟨u, g _ _ hu⟩, S.scr, S.so.elim (fun ⟨o, q⟩ => .inl ⟨o, g _ _ q⟩) .inr, S.root, S.tabs.ext g⟩
theorem repK_vals {T : Addr → List V → Prop} {κ : Type} {f : W → κ → Prop} : ∀ {l : List (W × W)} {r : List (κ × V)}, RepK C T ι f l r → RepVs C T ι (l.map (·.2)) (r.map (·.2))
  | _, _, .nil => .nil
  | _, _, .cons _ a b => .cons a (repK_vals b)
theorem repK_get {T : Addr → List V → Prop} {κ : Type} {f : W → κ → Prop} : ∀ {l : List (W × W)} {r : List (κ × V)} {j : Nat} {p : W × W}, RepK C T ι f l r → l[j]? = some p → ∃ k v, r[j]? = some (k, v) ∧ f p.1 k ∧ RepV C T ι p.2 v
  | _, _, j, p, .nil, h => by simp at h
  | _, _, 0, p, .cons e a b, h => by simp at h; subst h; exact ⟨_, _, rfl, e, a⟩
  | _, _, j + 1, p, .cons e a b, h => by
    obtain ⟨k, v, h1, h2⟩ := repK_get (j := j) b (by simpa using h)
    exact ⟨k, v, by simpa using h1, h2⟩
theorem reps_idx {T : Addr → List V → Prop} : ∀ {ws : List W} {vs : List V}, ws.length = vs.length → (∀ (j : Nat) (w : W) (v : V), ws[j]? = some w → vs[j]? = some v → RepV C T ι w v) → RepVs C T ι ws vs
  | [], [], _, _ => .nil
  | w :: ws, v :: vs, h, g => .cons (g 0 w v rfl rfl) (reps_idx (by simpa using h) fun j w v e e' => g (j + 1) w v (by simpa using e) (by simpa using e'))
  | [], _ :: _, h, _ => by simp at h
  | _ :: _, [], h, _ => by simp at h
theorem getD_inv {a : W} {k : Ad → Bool → List (W × W) → RE W} {f : W → M → Prop} (p : PostE f (getD m a k)) : ∃ n t kvs, a = .ref n ∧ m.get n = some (.dict t kvs) ∧ PostE f (k n t kvs) := by
  unfold getD at p
  split at p
  · split at p
    · rename_i e
      exact ⟨_, _, _, rfl, e, p⟩
    · exact p.elim
  · exact p.elim
end
section
variable {X : Cx} {C : Cn} {Γ : Pg} {K : PySem.W.Frag} {ι : Im} {H : Hp} {m : M} {a : Expr} {ga : Sl → M → RE W} {pos apos cpos p : Pos}
/-- {} -/
theorem snd_dnew (t : Bool) : Snd X C (.Dict [] [] pos) (fun _ m => .ok (.ref m.next) (m.new (.dict t []))) :=
  Snd.val ⟨fun _ _ => rfl, fun _ _ => rfl, fun _ _ => rfl, fun op => by cases op <;> rfl, fun _ _ _ => rfl, fun _ _ _ _ => rfl⟩ (by
    cases t with
    | false =>
      refine pe_dnewK.mono fun σ H Q ⟨ι, σ', m, s, S, q⟩ p hp => ?_
      have q : QV X.K C ι H Q (.ref m.next) (m.new (.dict false [])) := q
      exact q _ _ _ (S.new (u := .dK []) hp ⟨[], upd_same, .nil⟩) (ext_le S.none_next) (tk_new hp) (.ref ext_same)
    | true =>
      refine pe_dnewT.mono fun σ H Q ⟨ι, σ', m, s, S, q⟩ p hp => ?_
      have q : QV X.K C ι H Q (.ref m.next) (m.new (.dict true [])) := q
      exact q _ _ _ (S.new (u := .dT []) hp ⟨[], upd_same, .nil⟩) (ext_le S.none_next) (tk_new hp) (.ref ext_same)) fun _ => rfl
/-- sum(o.values()) -/
theorem snd_sumVals (hc : X.calm = true) (hg : Gl X "sum") (hm : X.mg "sum" = none) (hb : noBase a = true) (hline : (apos.endLine == cpos.line) = true) (ha : Snd X C a ga) :
    Snd X C (.Call (.Name "sum" p) [.Call (.Attribute a "values" apos) [] [] cpos] [] pos) (fun σ m => REbind (ga σ m) fun x m1 => qSumVals Γ x m1) :=
  Snd.val ⟨fun _ _ => rfl, fun _ _ => rfl, fun _ _ => rfl, fun op => by cases op <;> rfl, fun _ _ _ => rfl, fun _ _ _ _ => rfl⟩
    ((pe_callB (cr_sumVT hc) hg hm boot_sum (pa_cons (pe_bm0 PySem.F.plainAttrs_dict PySem.F.slot_dict_values PySem.F.type_dict_values mt_valsT ha.pe (noBase_ok hb) hline) pa_nil rfl) (by decide) (by decide) rfl rfl).mono fun σ H Q ⟨ι, σ', m, s, S, pp⟩ => by
      refine tG_bind s S pp fun ι1 H1 w v m1 l1 t1 s1 S1 r1 p1 => ?_
      obtain ⟨n, t, kvs, rfl, hm1, p1⟩ := getD_inv p1
      obtain ⟨rfl, p1⟩ := PostE.ifF p1
      obtain ⟨w, e, p1⟩ := PostE.lift p1
      cases r1 with
      | ref hn =>
        rename_i a1
        obtain ⟨a', e1, ks, h1, h2⟩ := S1.ob n _ hm1
        rw [hn] at e1; cases e1
        obtain ⟨ns, e2, g⟩ := sumW_ok (C := C) (n := 0) rfl (repK_vals h2) e
        refine ⟨.inr (.inr (.inl ⟨rfl, .inr ⟨ks, h1⟩⟩)), _, ks, rfl, rfl, h1, fun q hq => ?_⟩
        have gr : ∀ b o, H1 b = some o → upd H1 q (viewO "dict_values" q a1) b = some o := fun b o e => by rw [upd_ne (ne_of_none e hq)]; exact e
        rw [Int.zero_add] at g
        exact ⟨q, a1, ks, ns, rfl, upd_same, gr _ _ h1, e2, post_ok (simH_grow S1 gr) (num_rep g) (PostE.mono (fun a m => QV.base (l1) (t1.trans (.ext gr))) p1)⟩) fun _ => rfl
end
section
open PySem.W
theorem Reads.there {h : Heap} : (∀ (d : PyData) (v : Value) (as : List Addr), Reads h v d as → ∀ b ∈ as, ∃ o, h.get? b = some o) := by
  intro d v as r
  refine Reads.rec (motive_1 := fun _ _ as _ => ∀ b ∈ as, ∃ o, h.get? b = some o) (motive_2 := fun _ _ as _ => ∀ b ∈ as, ∃ o, h.get? b = some o) ?_ ?_ ?_ ?_ ?_ ?_ ?_ ?_ ?_ r
  · intro b hb; cases hb
  · intro _ b hb; cases hb
  · intro _ _ b hb; cases hb
  · intro _ _ b hb; cases hb
  · intro a o vs n xs as h1 _ _ _ ih b hb
    rcases List.mem_cons.mp hb with rfl | hb
    · exact ⟨_, h1⟩
    · exact ih b hb
  · intro a o vs n xs as h1 _ _ _ ih b hb
    exact ih b hb
  · intro a o es n kvs as bs h1 _ _ _ _ ih1 ih2 b hb
    rcases List.mem_append.mp hb with hb | hb
    · rcases List.mem_cons.mp hb with rfl | hb
      · exact ⟨_, h1⟩
      · exact ih1 b hb
    · exact ih2 b hb
  · intro b hb; cases hb
  · intro v vs d ds as bs _ _ ih1 ih2 b hb
    rcases List.mem_append.mp hb with hb | hb
    · exact ih1 b hb
    · exact ih2 b hb
variable {X : Cx} {C : Cn} {Γ : Pg} {a : Expr} {ga : Sl → M → RE W} {pos apos cpos p : Pos}
def rSortW (K : PySem.W.Frag) (C : Cn) (Γ : Pg) : List V → Hp → VK → Prop := fun xs H Q => ∃ (ι : Im) (m : M) (n : Ad) (kvs : List (W × W)) (p a : Addr), xs = [.ref p] ∧ H p = some (DX.itemsO p a) ∧ ι n = some a ∧ SimH K C ι m H ∧ m.get n = some (.dict true kvs) ∧
  PostE (QV K C ι H Q) (lift (sortW Γ.lo Γ.hi m (kvs.map fun p => .tup [p.1, p.2])) fun ys => newL ys m)
theorem cr_sortW (R : Rng Γ C) (hc : X.calm = true) (hu : X.A.units + 64 < cLine) : CallR X (.builtin "sorted") (rSortW X.K C Γ) := by
  intro pins s σ H xs us Q I rx h
  obtain ⟨ι, m, n, kvs, p, a, rfl, hp, hn0, S, hm, pp⟩ := h
  obtain rfl := Vals.ref1 rx
  obtain ⟨a', e1, ks, ha, rk⟩ := S.ob n _ hm
  rw [hn0] at e1; cases e1
  have view : s.heap.IsItemsView p a := (show ObjOk X.prog X.w H s.heap p (DX.itemsO p a) from I.hok p _ hp).1
  obtain ⟨z, hd, xs', rel, o, es, ep, ho, hx, hdat, hes, his, hn⟩ := dt_of I.hok ha
  have l1 : ks.length = xs'.length := Paired.length rel
  have l2 : es.size = xs'.length := size_of_entries hes
  have l3 : kvs.length = ks.length := rk.length
  have hh : X.A.handled = none := I.ok.hd hc
  refine DT.sortedI (es := es) (ep := ep) hh view ⟨o, ho, hx, hdat⟩ (by omega) fun h' tk as hk hlt hl hG => ?_
  have nd : as.Nodup := List.Pairwise.imp (fun h => Nat.ne_of_lt h) hG.rise
  have I1 : Inv X pins σ H { s with heap := h', toks := tk } := I.kept (t' := tk) hk
  have pr : ∀ (j : Nat) (b : Addr), as[j]? = some b → ∃ (k : List L2.Key) (v : V) (kq : Addr) (u : Value), ks[j]? = some (k, v) ∧ H kq = some (.tup (k.map kV)) ∧ RelV v u ∧ h'.get? b = some { cls := .type "tuple", data := .seq #[Value.ref kq, u] } := by
    intro j b hj
    obtain ⟨en, he, hg⟩ := hG.pairs j b hj
    rw [entry_at hes j] at he
    cases hxj : xs'[j]? with
    | none => rw [hxj] at he; cases he
    | some x =>
      rw [hxj] at he
      cases he
      obtain ⟨e0, he0, r1, r2, r3⟩ := DX.pget rel hxj
      exact ⟨e0.1, e0.2, x.2.1, x.2.2, he0, r2, r3, hg⟩
  obtain ⟨H2, I2, g, qt⟩ := DX.takeT (P := fun b vs => ∃ (j : Nat) (k : List L2.Key) (v : V) (kq : Addr), as[j]? = some b ∧ ks[j]? = some (k, v) ∧ vs = [.ref kq, v] ∧ H kq = some (.tup (k.map kV))) I as H I1 nd fun b hb => by
    obtain ⟨j, hj⟩ := List.mem_iff_getElem?.mp hb
    obtain ⟨k, v, kq, u, hkj, hkq, ru, hg⟩ := pr j b hj
    have hbl : s.heap.objs.size ≤ b := Nat.le_of_lt (hG.above b hb)
    exact ⟨hbl, I.hok.fresh hbl, [.ref kq, v], ⟨j, k, v, kq, hj, hkj, rfl, hkq⟩, fun H3 => ⟨(by rw [sizeLine_eq]; show 2 ≤ 16777216; omega), [Value.ref kq, u], .cons rfl (.cons ru .nil), ⟨_, hg, rfl, 0, rfl⟩⟩⟩
  have S2 : SimH X.K C ι m H2 := simH_grow S g
  have lv : (kvs.map fun p => W.tup [p.1, p.2]).length = (as.map V.ref).length := by rw [List.length_map, List.length_map]; omega
  have rs : RepVs C (TT' X.K H2) ι (kvs.map fun p => W.tup [p.1, p.2]) (as.map V.ref) := reps_idx lv fun j w v ew ev => by
    rw [List.getElem?_map] at ew ev
    cases hkj : kvs[j]? with
    | none => rw [hkj] at ew; cases ew
    | some q =>
      cases haj : as[j]? with
      | none => rw [haj] at ev; cases ev
      | some b =>
        rw [hkj] at ew; rw [haj] at ev
        cases ew; cases ev
        obtain ⟨vs, ⟨j', k, v, kq, j1, j2, ev, hkq⟩, hH⟩ := qt b (List.mem_of_getElem? haj)
        have ej : j' = j := (List.getElem?_inj (List.getElem?_eq_some_iff.mp j1).1 nd).mp (j1.trans haj.symm)
        subst ej
        obtain ⟨k', v', f1, f2, f3⟩ := repK_get rk hkj
        rw [j2] at f1
        cases f1
        subst ev
        show RepV C (TT' X.K H2) ι (W.tup [q.1, q.2]) (V.ref b)
        generalize q.1 = q1 at f2 ⊢
        cases f2 with
        | mk f2 => exact .tup hH (.cons (.tup (g _ _ hkq) (kRs_rep f2)) (.cons (f3.mono (.ext g) (Le.refl ι)) .nil))
  generalize hxs : (kvs.map fun p => W.tup [p.1, p.2]) = xs at pp lv rs
  obtain ⟨ys, e, pp⟩ := PostE.lift pp
  have e : (Bool.rec (.error (.stuck 2)) (sortI Γ.lo Γ.hi m [] xs) (cmpOk m xs && srtOk m xs) : Except Er (List W)) = .ok ys := e
  cases hb : (cmpOk m xs && srtOk m xs) with
  | false => rw [hb] at e; cases e
  | true =>
    rw [hb] at e
    rw [Bool.and_eq_true] at hb
    obtain ⟨d, al, nn⟩ := cmpOk_ok (C := C) hb.1
    have es' := sortI_sort R.lo R.hi d al e
    obtain ⟨dl, pl, zl⟩ := dt_all S2 d rs
    have rv : Vals (as.map V.ref) (as.map Value.ref) := vals_maps (fun b : Addr => V.ref b) (fun b => Value.ref b) as fun _ _ => rfl
    have each := vals_each lv rv
    have rdz : ∀ p ∈ xs.zip (as.map V.ref), RepV C (TT' X.K H2) ι p.1 p.2 := reps_zip rs
    have fst : (xs.zip (as.map V.ref)).map (·.1) = xs := List.map_fst_zip (by omega)
    have menc : (xs.zip (as.map V.ref)).map (fun p => dat C.x m 12 p.1) = xs.map (dat C.x m 12) := by rw [← congrArg (List.map (dat C.x m 12)) fst, List.map_map]; rfl
    obtain ⟨as0, rds⟩ := Dp.readsAll I2 _ _ _ dl rv
    have rds : ReadsAll h' (as.map Value.ref) (xs.map (dat C.x m 12)) as0 := rds
    have each2 : PySem.W.EachIs (fun v (b : W × V) => ∃ as, Reads h' v (dat C.x m 12 b.1) as) (as.map Value.ref) (xs.zip (as.map V.ref)) := PySem.W.readsAll_each _ (by rw [menc]; exact rds)
    have hob : (h'.push { cls := .type "list", data := .seq (as.map Value.ref).toArray }).get? h'.objs.size = some (seqObj "list" (as.map Value.ref).toArray 0) := Heap.get?_push_size _ rfl
    have ka : ∀ b o, h'.get? b = some o → (h'.push { cls := .type "list", data := .seq (as.map Value.ref).toArray }).get? b = some o := fun b o e => Heap.get?_push_of_some _ e
    have ne0 : ∀ b o, h'.get? b = some o → b ≠ h'.objs.size := fun b o e => Nat.ne_of_lt (Heap.lt_size e)
    generalize hh2 : h'.push { cls := .type "list", data := .seq (as.map Value.ref).toArray } = h2 at hob ka ⊢
    have each3 : PySem.W.EachIs (fun v (b : W × V) => ∃ as, Reads h2 v (dat C.x m 12 b.1) as ∧ h'.objs.size ∉ as) (as.map Value.ref) (xs.zip (as.map V.ref)) := each2.mono fun v b ⟨as1, r⟩ => ⟨as1, PyProof.Rows.Reads.keeps (fun _ _ q => ka _ _ q) r, fun hmem => by
      obtain ⟨o, ho⟩ := Reads.there _ _ _ r _ hmem
      exact ne0 _ _ ho rfl⟩
    have al2 : PySem.W.AllAlike ((xs.zip (as.map V.ref)).map fun p => dat C.x m 12 p.1) := by
      rw [menc]
      intro d hd d' hd'
      obtain ⟨y, hy, rfl⟩ := List.mem_map.mp hd
      obtain ⟨y', hy', rfl⟩ := List.mem_map.mp hd'
      exact al y hy y' hy'
    have so : PySem.W.Sortable ((xs.zip (as.map V.ref)).map fun p => dat C.x m 12 p.1) := by rw [menc]; exact srt_sortable hb.2 d nn al
    have hlen2 : (xs.zip (as.map V.ref)).length ≤ sizeLine := by rw [List.length_zip, List.length_map]; omega
    refine PySem.W.list_sort_data (s := { s with heap := h2, toks := tk }) (R := fun u (p : W × V) => RelV p.2 u) hob each each3 al2 so hlen2 (fun b hb2 => ?_) fun out hol hout => ?_
    · have : (dat C.x m 12 b.1).depth ≤ 12 := (dt_dp S2 12 _ _ (allL_ok d b.1 (by rw [← fst]; exact List.mem_map_of_mem hb2)) (rdz b hb2)).2.2
      show X.A.units + 1 + 1 + _ < cLine
      omega
    · have perm := List.mergeSort_perm (xs.zip (as.map V.ref)) (PySem.W.dataLe false fun b : W × V => dat C.x m 12 b.1)
      have q := each_vals hout
      have rr := reps_of (C := C) (ι := ι) (T := TT' X.K H2) (l := (xs.zip (as.map V.ref)).mergeSort (PySem.W.dataLe false fun b : W × V => dat C.x m 12 b.1)) fun p hp => rdz p (perm.mem_iff.mp hp)
      have ey : ((xs.zip (as.map V.ref)).mergeSort (PySem.W.dataLe false fun b : W × V => dat C.x m 12 b.1)).map (·.1) = ys := by
        have q := PySem.W.sort_maps (r := PySem.W.dataLe false fun b : W × V => dat C.x m 12 b.1) (s := leD C.x m) (fun p : W × V => p.1) (l := xs.zip (as.map V.ref)) (fun _ _ _ _ => rfl)
        rw [fst] at q
        exact q.trans es'.symm
      rw [ey] at rr
      obtain ⟨z2, pq⟩ := post_newL S2 rr (PostE.mono (fun a m => QV.base (Le.refl ι) (.ext g)) pp)
      obtain ⟨eF, heF⟩ := PyProof.Rows.sortedHeap_at (vs := as.map Value.ref) (out := List.toArray out) hob
      have kF : ∀ b o, h'.get? b = some o → (sortedHeap h2 h'.objs.size (as.map Value.ref) (List.toArray out)).get? b = some o := fun b o e => (PyProof.Rows.sortedHeap_old (ne0 _ _ e) (Heap.lt_size (ka _ _ e))).trans (ka _ _ e)
      have hn2 : H2 h'.objs.size = none := I2.hok.fresh (Nat.le_refl _)
      have I3 : Inv X pins σ H2 { s with heap := sortedHeap h2 h'.objs.size (as.map Value.ref) (List.toArray out), toks := tk } := I2.kept (t' := tk) kF
      exact ⟨.ref h'.objs.size, _, I3.take (h' := sortedHeap h2 h'.objs.size (as.map Value.ref) (List.toArray out)) (t' := tk) (fun b ob _ e => e) (I2.fpOk (Nat.le_refl _) hn2) (o := .lst _) ⟨z2, out, eF, q, by simpa using heF⟩, rfl, pq _ hn2⟩
/-- sorted(o.items()) -/
theorem snd_sortItems (R : Rng Γ C) (hc : X.calm = true) (hu : X.A.units + 64 < cLine) (hg : Gl X "sorted") (hm : X.mg "sorted" = none) (hb : noBase a = true) (hline : (apos.endLine == cpos.line) = true) (ha : Snd X C a ga) :
    Snd X C (.Call (.Name "sorted" p) [.Call (.Attribute a "items" apos) [] [] cpos] [] pos) (fun σ m => REbind (ga σ m) fun x m1 => qSortItems Γ x m1) :=
  Snd.val ⟨fun _ _ => rfl, fun _ _ => rfl, fun _ _ => rfl, fun op => by cases op <;> rfl, fun _ _ _ => rfl, fun _ _ _ _ => rfl⟩
    ((pe_callB (cr_sortW (Γ := Γ) R hc hu) hg hm boot_sorted (pa_cons (pe_bm0 PySem.F.plainAttrs_dict PySem.F.slot_dict_items PySem.F.type_dict_items DX.mt_itemsT ha.pe (noBase_ok hb) hline) pa_nil rfl) (by decide) (by decide) rfl rfl).mono fun σ H Q ⟨ι, σ', m, s, S, pp⟩ => by
      refine tG_bind s S pp fun ι1 H1 w v m1 l1 t1 s1 S1 r1 p1 => ?_
      obtain ⟨n, t, kvs, rfl, hm1, p1⟩ := getD_inv p1
      obtain ⟨rfl, p1⟩ := PostE.ifF p1
      cases r1 with
      | ref hn =>
        rename_i a1
        obtain ⟨a', e1, ks, h1, h2⟩ := S1.ob n _ hm1
        rw [hn] at e1; cases e1
        refine ⟨.inr (.inr (.inl ⟨rfl, .inr ⟨ks, h1⟩⟩)), _, ks, rfl, rfl, h1, fun q hq => ?_⟩
        have gr : ∀ b o, H1 b = some o → upd H1 q (DX.itemsO q a1) b = some o := fun b o e => by rw [upd_ne (ne_of_none e hq)]; exact e
        exact ⟨ι1, m1, n, kvs, q, a1, rfl, upd_same, hn, simH_grow S1 gr, hm1, PostE.mono (fun a m => QV.base l1 (t1.trans (.ext gr))) p1⟩) fun _ => rfl
end
end
end Jw

/-! list(range(..)), tuple(range(..)). -/
namespace Jw
open PySem PySem.Spec PyProof.Rows L2
noncomputable section
section
variable {X : Cx} {C : Cn} {Γ : Pg} {ι : Im} {a b : Expr} {ga gb : Sl → M → RE W} {pos ppos p q : Pos}
theorem reps_rng {T : Addr → List V → Prop} : ∀ (n : Nat) (i : Int), RepVs C T ι (rngL i n) ((List.range n).map fun k => V.int (i + (k : Nat)))
  | 0, _ => .nil
  | n + 1, i => by
    rw [List.range_succ_eq_map, List.map_cons, List.map_map]
    have e : ((fun k => V.int (i + (k : Nat))) ∘ Nat.succ : Nat → V) = fun k => V.int (i + 1 + (k : Nat)) := by
      funext k
      show V.int (i + ((k + 1 : Nat) : Int)) = V.int (i + 1 + (k : Nat))
      congr 1
      omega
    rw [e]
    exact .cons (by rw [Int.natCast_zero, Int.add_zero]; exact .int i) (reps_rng n (i + 1))
theorem post_tupN {K : PySem.W.Frag} {H : Hp} {m : M} {Q : VK} {ws : List W} {vs : List V} (S : SimH K C ι m H) (r : RepVs C (TT' K H) ι ws vs) (h : PostE (QV K C ι H Q) (.ok (.tup ws) m)) : ∀ p, H p = none → Q (.ref p) (upd H p (.tup vs)) := fun p hp =>
  h ι _ _ (simH_tup S hp) (Le.refl ι) (tk_new hp) (.tup upd_same (r.mono (tk_new hp) (Le.refl ι)))
theorem snd_lstRng2 (hc : X.calm = true) (hl : Gl X "list") (hlm : X.mg "list" = none) (hg : Gl X "range") (hm : X.mg "range" = none) (ha : Snd X C a ga) (hb : Snd X C b gb) :
    Snd X C (.Call (.Name "list" p) [.Call (.Name "range" q) [a, b] [] ppos] [] pos) (fun σ m => REbind (ga σ m) fun x m1 => REbind (gb σ m1) fun y m2 => rngOf x y fun p n => ifB (Nat.ble n 100000) (newL (rngL p n) m2) (.er (.stuck 50))) :=
  Snd.val ⟨fun _ _ => rfl, fun _ _ => rfl, fun _ _ => rfl, fun op => by cases op <;> rfl, fun _ _ _ => rfl, fun _ _ _ _ => rfl⟩ ((pe_listRg hc hl hlm (prg_2 hg hm ha.pe hb.pe (ha.nice.star _ _) (hb.nice.star _ _) (by rw [hb.nice.star]; rfl)) rfl).mono fun σ H Q ⟨ι, σ', m, s, S, p⟩ => by
    refine tG_bind s S p fun ι1 H1 w v m1 l1 t1 s1 S1 r1 p1 => ?_
    refine tG_bind s1 S1 p1 fun ι2 H2 u y m2 l2 t2 s2 S2 r2 p2 => ?_
    obtain ⟨i, j, rfl, rfl, ⟨k1, k2⟩, p2⟩ := rngOf_inv p2
    obtain rfl := r1.int_inv
    obtain rfl := r2.int_inv
    obtain ⟨z1, z2, z3⟩ := small_ok k2
    obtain ⟨z4, z5, z6⟩ := small_ok k1
    obtain ⟨hn, p2⟩ := PostE.ifF p2
    have hn := Nat.le_of_ble_eq_true hn
    exact ⟨i, j, rfl, rfl, ⟨by omega, by omega, by omega, by omega, by omega⟩, (post_newL S2 (reps_rng _ i) (PostE.mono (fun a m => QV.base (l1.trans l2) (t1.trans t2)) p2)).2⟩) fun _ => rfl
theorem snd_tupRng2 (hc : X.calm = true) (hl : Gl X "tuple") (hlm : X.mg "tuple" = none) (hg : Gl X "range") (hm : X.mg "range" = none) (ha : Snd X C a ga) (hb : Snd X C b gb) :
    Snd X C (.Call (.Name "tuple" p) [.Call (.Name "range" q) [a, b] [] ppos] [] pos) (fun σ m => REbind (ga σ m) fun x m1 => REbind (gb σ m1) fun y m2 => rngOf x y fun p n => ifB (Nat.ble n 100000) (.ok (.tup (rngL p n)) m2) (.er (.stuck 50))) :=
  Snd.val ⟨fun _ _ => rfl, fun _ _ => rfl, fun _ _ => rfl, fun op => by cases op <;> rfl, fun _ _ _ => rfl, fun _ _ _ _ => rfl⟩ ((pe_tupRg hc hl hlm (prg_2 hg hm ha.pe hb.pe (ha.nice.star _ _) (hb.nice.star _ _) (by rw [hb.nice.star]; rfl)) rfl).mono fun σ H Q ⟨ι, σ', m, s, S, p⟩ => by
    refine tG_bind s S p fun ι1 H1 w v m1 l1 t1 s1 S1 r1 p1 => ?_
    refine tG_bind s1 S1 p1 fun ι2 H2 u y m2 l2 t2 s2 S2 r2 p2 => ?_
    obtain ⟨i, j, rfl, rfl, ⟨k1, k2⟩, p2⟩ := rngOf_inv p2
    obtain rfl := r1.int_inv
    obtain rfl := r2.int_inv
    obtain ⟨z1, z2, z3⟩ := small_ok k2
    obtain ⟨z4, z5, z6⟩ := small_ok k1
    obtain ⟨hn, p2⟩ := PostE.ifF p2
    have hn := Nat.le_of_ble_eq_true hn
    exact ⟨i, j, rfl, rfl, ⟨by omega, by omega, by omega, by omega, by omega⟩, post_tupN S2 (reps_rng _ i) (PostE.mono (fun a m => QV.base (l1.trans l2) (t1.trans t2)) p2)⟩) fun _ => rfl
theorem snd_lstRng1 (hc : X.calm = true) (hl : Gl X "list") (hlm : X.mg "list" = none) (hg : Gl X "range") (hm : X.mg "range" = none) (hz : Zero ga) (hb : Snd X C b gb) :
    Snd X C (.Call (.Name "list" p) [.Call (.Name "range" q) [b] [] ppos] [] pos) (fun σ m => REbind (ga σ m) fun x m1 => REbind (gb σ m1) fun y m2 => rngOf x y fun p n => ifB (Nat.ble n 100000) (newL (rngL p n) m2) (.er (.stuck 50))) :=
  Snd.val ⟨fun _ _ => rfl, fun _ _ => rfl, fun _ _ => rfl, fun op => by cases op <;> rfl, fun _ _ _ => rfl, fun _ _ _ _ => rfl⟩ ((pe_listRg hc hl hlm (prg_1 hg hm hb.pe (hb.nice.star _ _)) rfl).mono fun σ H Q ⟨ι, σ', m, s, S, p⟩ => by
    have p : PostE (QV X.K C ι H Q) (REbind (ga σ' m) fun x m1 => REbind (gb σ' m1) fun y m2 => rngOf x y fun p n => ifB (Nat.ble n 100000) (newL (rngL p n) m2) (.er (.stuck 50))) := p
    rcases hz σ' m with ⟨e, z⟩ | z
    · rw [z] at p; exact p.elim
    rw [z] at p
    have p : PostE (QV X.K C ι H Q) (REbind (gb σ' m) fun y m2 => rngOf (.int 0) y fun p n => ifB (Nat.ble n 100000) (newL (rngL p n) m2) (.er (.stuck 50))) := p
    refine tG_bind s S p fun ι2 H2 u y m2 l2 t2 s2 S2 r2 p2 => ?_
    obtain ⟨i, j, e1, rfl, ⟨k1, k2⟩, p2⟩ := rngOf_inv p2
    cases e1
    obtain rfl := r2.int_inv
    obtain ⟨z1, z2, z3⟩ := small_ok k2
    obtain ⟨hn, p2⟩ := PostE.ifF p2
    have hn := Nat.le_of_ble_eq_true hn
    exact ⟨j, rfl, ⟨by omega, by omega, by omega, by omega, by omega⟩, (post_newL S2 (reps_rng _ 0) (PostE.mono (fun a m => QV.base l2 t2) p2)).2⟩) fun _ => rfl
theorem snd_tupRng1 (hc : X.calm = true) (hl : Gl X "tuple") (hlm : X.mg "tuple" = none) (hg : Gl X "range") (hm : X.mg "range" = none) (hz : Zero ga) (hb : Snd X C b gb) :
    Snd X C (.Call (.Name "tuple" p) [.Call (.Name "range" q) [b] [] ppos] [] pos) (fun σ m => REbind (ga σ m) fun x m1 => REbind (gb σ m1) fun y m2 => rngOf x y fun p n => ifB (Nat.ble n 100000) (.ok (.tup (rngL p n)) m2) (.er (.stuck 50))) :=
  Snd.val ⟨fun _ _ => rfl, fun _ _ => rfl, fun _ _ => rfl, fun op => by cases op <;> rfl, fun _ _ _ => rfl, fun _ _ _ _ => rfl⟩ ((pe_tupRg hc hl hlm (prg_1 hg hm hb.pe (hb.nice.star _ _)) rfl).mono fun σ H Q ⟨ι, σ', m, s, S, p⟩ => by
    have p : PostE (QV X.K C ι H Q) (REbind (ga σ' m) fun x m1 => REbind (gb σ' m1) fun y m2 => rngOf x y fun p n => ifB (Nat.ble n 100000) (.ok (.tup (rngL p n)) m2) (.er (.stuck 50))) := p
    rcases hz σ' m with ⟨e, z⟩ | z
    · rw [z] at p; exact p.elim
    rw [z] at p
    have p : PostE (QV X.K C ι H Q) (REbind (gb σ' m) fun y m2 => rngOf (.int 0) y fun p n => ifB (Nat.ble n 100000) (.ok (.tup (rngL p n)) m2) (.er (.stuck 50))) := p
    refine tG_bind s S p fun ι2 H2 u y m2 l2 t2 s2 S2 r2 p2 => ?_
    obtain ⟨i, j, e1, rfl, ⟨k1, k2⟩, p2⟩ := rngOf_inv p2
    cases e1
    obtain rfl := r2.int_inv
    obtain ⟨z1, z2, z3⟩ := small_ok k2
    obtain ⟨hn, p2⟩ := PostE.ifF p2
    have hn := Nat.le_of_ble_eq_true hn
    exact ⟨j, rfl, ⟨by omega, by omega, by omega, by omega, by omega⟩, post_tupN S2 (reps_rng _ 0) (PostE.mono (fun a m => QV.base l2 t2) p2)⟩) fun _ => rfl
end
end
end Jw

/-! sorted(set(xs)), len(set(xs)) of whole numbers. -/
namespace Jw
open PySem PySem.Calls PySem.Spec PyProof.Rows L2
noncomputable section
/-- the object of a set just made -/
abbrev freshS (w : World) : Obj := { cls := .type "set", dict := none, data := .set #[] 0 (.fresh 0 0 (!w.params.followText "set-order")) }
section
variable {P : Program} {w : World} {A : Around} {E : Value → Shared → Prop} {s : Shared}
set_option maxHeartbeats 3200000 in
theorem call_set_listI {l : Addr} {items : Array Value} (ns : List Int) {Q : Value → Shared → Prop} (hh : A.handled = none) (hl : s.heap.IsList l items) (hit : IntsAre items.toList ns) (hb : ns.length + 1 < scanBound)
    (h : ∀ (h' : Heap) (tk c : Nat), SetR w h' s.heap.objs.size (fun j => decide (j ∈ ns)) c → c ≤ ns.length → (∀ b o, s.heap.get? b = some o → h'.get? b = some o) → Q (.ref s.heap.objs.size) { s with heap := h', toks := tk }) :
    wpAny (model P w) A (call (.type "set") [.ref l]) Q E s := by
  have nsz : items.size = ns.length := by
    have q := IntsAre.length hit
    rw [Array.length_toList] at q
    exact q
  obtain ⟨c, tl, gmro⟩ := F.called_set.mro
  have gmade := F.called_set.made
  have gsub := F.called_set.sub
  refine wpAny_call (codeAny_of_tree ?_)
  show wpAny _ _ (callAny (.type "set") _) _ _ _
  refine wpAny_pure ⟨Code.quiet_builtin _ (by decide +kernel), codeAny_builtin F.entry_type_call ?_⟩
  rw [Around.under_plain (weight_type_call_type "set" [.ref l] []) rfl]
  have h1 := F.called_set.notType
  have h2 := F.called_set.canCreate
  have gct := F.typeCall_set_1 (.ref l)
  repeat (any_goals (first | assumption | wp_step))

  refine codeAny_mono (code_set_led1 (.ref l) (E := E) (Q₁ := fun obj s₁ => obj = .ref s.heap.objs.size ∧ s₁ = { s with heap := s.heap.push (freshS w) }) ⟨rfl, rfl⟩) fun r s₁ hr => ?_
  cases r with
  | error e => exact hr
  | ok fl =>
    cases fl with
    | ret obj =>
      obtain ⟨rfl, rfl⟩ := hr
      have gS : (s.heap.push (freshS w)).get? s.heap.objs.size = some (freshS w) := Heap.get?_push_size _ rfl
      have gT : Shared.TypeIs { s with heap := s.heap.push (freshS w) } (.ref s.heap.objs.size) "set" := ⟨_, gS, rfl⟩
      have gli := F.called_set.init.lookup
      have gbi := F.called_set.init.bind (.ref s.heap.objs.size)
      repeat (any_goals (first | assumption | wp_step))

      refine codeAny_mono (codeAny_call_builtin (R := wants (fun r s₂ => r = .none ∧ ∃ h' tk c, s₂ = { s with heap := h', toks := tk } ∧ SetR w h' s.heap.objs.size (fun j => decide (j ∈ ns)) c ∧ c ≤ ns.length ∧
          (∀ b o, s.heap.get? b = some o → h'.get? b = some o)) E) F.called_set.init.plain F.entry_set_init (check_set_init_1 gT ?_)) fun r₂ s₂ hr₂ => ?_
      · obtain ⟨ol, gol, hcl, nl, hdl⟩ := hl
        obtain ⟨ocls, odict, odata, oslots⟩ := ol
        simp only at hcl hdl
        subst hcl; subst hdl
        have gol1 : (s.heap.push (freshS w)).get? l = some { cls := .type "list", dict := odict, data := .seq items nl, slots := oslots } := Heap.get?_push_of_some _ gol
        have gsl := F.sub_list_set
        have gsf := F.sub_list_frozenset
        have gne : (Value.type "list" == Value.type "dict") = false := by decide
        have gl1 : (s.heap.push (freshS w)).IsList l items := ⟨_, gol1, rfl, nl, rfl⟩
        unfold Builtin.«set.__init__» noKeywords Builtin.Frozenset.updateFrom
        generalize hPI : pyIter = PI
        wp_walk
        subst hPI

        refine wpAny_pyIter_list gl1 ?_
        refine wpAny_bind (wpAny_runValue ?_)
        have glS : l < s.heap.objs.size := Heap.lt_size gol
        have gh3 : A.in1.in1.in1.handled = none := by simp [hh]
        have gz1 : (s.heap.push (freshS w)).objs.size = s.heap.objs.size + 1 := Heap.size_push ..
        have gneI : l ≠ (s.heap.push (freshS w)).objs.size := by
          rw [Heap.size_push]; exact Nat.ne_of_lt (Nat.lt_succ_of_lt glS)
        have hSf : s.heap.objs.size ∉ [(s.heap.push (freshS w)).objs.size, l] := by
          rw [Heap.size_push]; simp only [List.mem_cons, List.mem_singleton, List.not_mem_nil, or_false, not_or]
          exact ⟨Nat.ne_of_lt (Nat.lt_succ_self _), Nat.ne_of_gt glS⟩
        have gval : ∀ (i : Nat) (v : Value), items[i]? = some v → ∃ k t, ns[i]? = some k ∧ v = .int k t := fun i v hv => by
          have hi : i < ns.length := by rw [← nsz]; exact (Array.getElem?_eq_some_iff.mp hv).1
          obtain ⟨t, e⟩ := PyProof.Rows.IntsAre.int_at hit i v (by rw [Array.getElem?_toList]; exact hv)
          refine ⟨ns[i], t, List.getElem?_eq_getElem hi, ?_⟩
          rw [e, List.getD_eq_getElem?_getD, List.getElem?_eq_getElem hi] <;> rfl
        refine set_update_ints ((Walks.list gh3 _ l gneI items).toS) s.heap.objs.size
          hSf ns nsz hb gval (items.size - 0) 0 _ (by omega) (Nat.zero_le _)
          ⟨⟨_, Heap.get?_push_size _ rfl, rfl, rfl⟩, (gl1.push _)⟩ ?gS0 ?hR
        case gS0 =>
          have gget : ((s.heap.push (freshS w)).push { cls := .type "list_iterator", data := .fields #[.ref l, .int 0 0] }).get? s.heap.objs.size
              = some (freshS w) := Heap.get?_push_of_some _ gS
          exact ⟨0, Nat.le_refl 0, setR_new_at gget⟩
        case hR =>
          intro s' c' hm gc1 gS1
          obtain ⟨h', g2, d', tk', os'⟩ := s'
          have eg : g2 = s.gens := hm.gens
          have ed : d' = s.drawn := hm.drawn
          have eo : os' = s.os := hm.os
          subst eg; subst ed; subst eo
          show wpAny _ _ _ _ _ _
          refine wpAny_pure ?_
          show wpAny _ _ (ret Value.none) _ _ _
          rw [nsz] at gc1
          refine wpAny_pure ⟨rfl, h', tk', c', rfl, gS1, gc1, fun b o e => ?_⟩
          have gb0 : b < s.heap.objs.size := Heap.lt_size e
          have gb1 : b ≠ s.heap.objs.size := Nat.ne_of_lt gb0
          have gb2 : b ≠ (s.heap.push (freshS w)).objs.size := by
            rw [Heap.size_push]; exact Nat.ne_of_lt (Nat.lt_succ_of_lt gb0)
          exact hm.heap b o (by simp only [List.mem_cons, List.mem_singleton, List.not_mem_nil, or_false, not_or]; exact ⟨gb1, gb2⟩) (Heap.get?_push_of_some _ (Heap.get?_push_of_some _ e))

      · cases r₂ with
        | error e => exact hr₂
        | ok fl₂ =>
          cases fl₂ with
          | ret r =>
            obtain ⟨rfl, h', tk, c', rfl, gS1, gc1, gk1⟩ := hr₂
            repeat (any_goals (first | assumption | wp_step))
            exact h _ _ _ gS1 gc1 gk1
          | _ => exact hr₂.elim
    | _ => exact hr.elim
end
end
end Jw

namespace Jw
open PySem PySem.Calls PySem.Spec PyProof.Rows L2
noncomputable section
section
variable {C : Cn} {m : M} {Γ : Pg} {ι : Im}
/-- the number of a value -/
def nV (x : Int) (w : W) : Int := (numV x w).getD 0
theorem num_dat {w : W} (h : isNum w = true) : dat C.x m 12 w = .int (nV C.x w) ∧ dtN m 12 w = true ∧ numV C.x w = some (nV C.x w) := by
  cases w <;> first
    | (cases h; done)
    | exact ⟨rfl, rfl, rfl⟩
theorem num_all {ws : List W} (h : allL isNum ws = true) : ws.map (dat C.x m 12) = (ws.map (nV C.x)).map PyData.int ∧ allL (dtN m 12) ws = true := by
  induction ws with
  | nil => exact ⟨rfl, rfl⟩
  | cons w ws ih =>
    obtain ⟨h1, h2⟩ := allL_cons h
    obtain ⟨e1, e2⟩ := ih h2
    obtain ⟨d1, d2, _⟩ := num_dat (C := C) (m := m) h1
    refine ⟨by rw [List.map_cons, List.map_cons, List.map_cons, e1, d1], ?_⟩
    show (Bool.rec false (allL (dtN m 12) ws) (dtN m 12 w) : Bool) = true
    rw [d2]; exact e2
theorem allL_cons2 {α : Type} {f : α → Bool} {x : α} {xs : List α} (h1 : f x = true) (h2 : allL f xs = true) : allL f (x :: xs) = true := by
  show (Bool.rec false (allL f xs) (f x) : Bool) = true
  rw [h1]; exact h2
theorem memI_num (R : Rng Γ C) {x : W} {l : List W} {r : Bool} (hx : isNum x = true) (hl : allL isNum l = true) (h : memI Γ.lo Γ.hi m x l = .ok r) : r = decide (nV C.x x ∈ l.map (nV C.x)) := by
  have q := memI_dat (C := C) R (num_dat (C := C) hx).2.1 (num_all (C := C) hl).2 h
  rw [(num_all hl).1, (num_dat hx).1] at q
  rw [← q, List.any_map]
  rw [Bool.eq_iff_iff, List.any_eq_true, decide_eq_true_iff]
  constructor
  · intro ⟨y, hy, e⟩
    have e : (y == nV C.x x) = true := e
    rw [← eq_of_beq e]; exact hy
  · intro hy
    exact ⟨_, hy, show (nV C.x x == nV C.x x) = true from beq_self_eq_true _⟩
theorem allL_rev {α : Type} {f : α → Bool} {l : List α} (h : ∀ x ∈ l, f x = true) : allL f l = true := by
  induction l with
  | nil => rfl
  | cons x xs ih => exact allL_cons2 (h x (List.mem_cons_self ..)) (ih fun y hy => h y (List.mem_cons_of_mem _ hy))
theorem dedW_num (R : Rng Γ C) : ∀ {xs acc zs : List W}, allL isNum xs = true → allL isNum acc = true → (acc.map (nV C.x)).Nodup → dedW Γ.lo Γ.hi m acc xs = .ok zs →
    allL isNum zs = true ∧ (zs.map (nV C.x)).Nodup ∧ ∀ k, k ∈ zs.map (nV C.x) ↔ k ∈ acc.map (nV C.x) ∨ k ∈ xs.map (nV C.x)
  | [], acc, zs, _, ha, hn, h => by
    cases h
    refine ⟨allL_rev fun x hx => allL_ok ha x (List.mem_reverse.mp hx), by rw [List.map_reverse]; exact (List.reverse_perm _).nodup_iff.mpr hn, fun k => ?_⟩
    rw [List.map_reverse, List.mem_reverse]
    simp
  | x :: xs, acc, zs, hx, ha, hn, h => by
    obtain ⟨h1, h2⟩ := allL_cons hx
    have h' : exIf (memI Γ.lo Γ.hi m x acc) (dedW Γ.lo Γ.hi m acc xs) (dedW Γ.lo Γ.hi m (x :: acc) xs) = .ok zs := h
    rcases exIf_ok h' with ⟨e, q⟩ | ⟨e, q⟩
    · have hm := of_decide_eq_true (memI_num R h1 ha e).symm
      obtain ⟨a, b, c⟩ := dedW_num R h2 ha hn q
      refine ⟨a, b, fun k => ?_⟩
      rw [c k, List.map_cons, List.mem_cons]
      constructor
      · rintro (z | z)
        · exact .inl z
        · exact .inr (.inr z)
      · rintro (z | z | z)
        · exact .inl z
        · exact .inl (z ▸ hm)
        · exact .inr z
    · have hm := of_decide_eq_false (memI_num R h1 ha e).symm
      obtain ⟨a, b, c⟩ := dedW_num R h2 (allL_cons2 h1 ha) (by rw [List.map_cons, List.nodup_cons]; exact ⟨hm, hn⟩) q
      refine ⟨a, b, fun k => ?_⟩
      rw [c k, List.map_cons, List.map_cons, List.mem_cons, List.mem_cons]
      constructor
      · rintro ((z | z) | z)
        · exact .inr (.inl z)
        · exact .inl z
        · exact .inr (.inr z)
      · rintro (z | z | z)
        · exact .inl (.inr z)
        · exact .inl (.inl z)
        · exact .inr z
theorem mem_sorted_eq {a b : List Int} (ha : a.Pairwise (· < ·)) (hb : b.Pairwise (· < ·)) (h : ∀ k, k ∈ a ↔ k ∈ b) : a = b := by
  have na : a.Nodup := ha.imp fun h => Int.ne_of_lt h
  have nb : b.Nodup := hb.imp fun h => Int.ne_of_lt h
  exact ((List.perm_ext_iff_of_nodup na nb).mpr h).eq_of_pairwise (fun x y _ _ h1 h2 => absurd (Int.lt_trans h1 h2) (Int.lt_irrefl _)) ha hb
theorem reps_num {T : Addr → List V → Prop} : ∀ {ws : List W}, allL isNum ws = true → RepVs C T ι ws ((ws.map (nV C.x)).map V.int)
  | [], _ => .nil
  | w :: ws, h => by
    obtain ⟨h1, h2⟩ := allL_cons h
    exact .cons (num_rep (num_dat (C := C) (m := ⟨[], .nil⟩) h1).2.2) (reps_num h2)
theorem reps_num_eq {T : Addr → List V → Prop} : ∀ {ws : List W} {vs : List V}, allL isNum ws = true → RepVs C T ι ws vs → vs = (ws.map (nV C.x)).map V.int
  | _, _, _, .nil => rfl
  | _, _, h, .cons a b => by
    obtain ⟨h1, h2⟩ := allL_cons h
    rw [List.map_cons, List.map_cons, ← reps_num_eq h2 b, a.num (num_dat (C := C) (m := ⟨[], .nil⟩) h1).2.2]
theorem sort_num (R : Rng Γ C) {zs ys : List W} (hz : allL isNum zs = true) (hn : (zs.map (nV C.x)).Nodup) (h : sortW Γ.lo Γ.hi m zs = .ok ys) : allL isNum ys = true ∧ (ys.map (nV C.x)).Pairwise (· < ·) ∧ ∀ k, k ∈ ys.map (nV C.x) ↔ k ∈ zs.map (nV C.x) := by
  have e : (Bool.rec (.error (.stuck 2)) (sortI Γ.lo Γ.hi m [] zs) (cmpOk m zs && srtOk m zs) : Except Er (List W)) = .ok ys := h
  cases hb : (cmpOk m zs && srtOk m zs) with
  | false => rw [hb] at e; cases e
  | true =>
    rw [hb] at e
    rw [Bool.and_eq_true] at hb
    obtain ⟨d, al, nn⟩ := cmpOk_ok (C := C) hb.1
    have es := sortI_sort R.lo R.hi d al e
    have perm := List.mergeSort_perm zs (leD C.x m)
    have em : ys.map (nV C.x) = (zs.map (nV C.x)).mergeSort fun a b => decide (a ≤ b) := by
      rw [es]
      refine (PySem.W.sort_maps (r := leD C.x m) (s := fun a b : Int => decide (a ≤ b)) (nV C.x) (l := zs) fun a ha b hb => ?_)
      show (!PySem.W.dataLt (dat C.x m 12 b) (dat C.x m 12 a)) = decide (nV C.x a ≤ nV C.x b)
      rw [(num_dat (allL_ok hz a ha)).1, (num_dat (allL_ok hz b hb)).1]
      exact congrFun (congrFun (PySem.W.dataLe_int (β := Int) id) (nV C.x a)) (nV C.x b)
    have s1 : (ys.map (nV C.x)).Pairwise (· ≤ ·) := by
      rw [em]
      have := List.pairwise_mergeSort (le := fun a b : Int => decide (a ≤ b)) (fun a b c h1 h2 => by simp at *; omega) (fun a b => by simp; omega) (zs.map (nV C.x))
      exact this.imp fun h => by simpa using h
    have pm : (ys.map (nV C.x)).Perm (zs.map (nV C.x)) := by rw [es]; exact perm.map _
    refine ⟨allL_rev fun x hx => allL_ok hz x (perm.mem_iff.mp (es ▸ hx)), ?_, fun k => pm.mem_iff⟩
    exact lt_of_le_nodup _ s1 (pm.nodup_iff.mpr hn)
variable {a : Expr} {ga : Sl → M → RE W} {pos ppos p q : Pos}
/-- sorted(set(xs)) -/
def tSetS (K : PySem.W.Frag) (t : TE) : TE := fun σ H Q => t σ H fun x H1 => ∃ (l : Addr) (ns : List Int), x = .ref l ∧ SqL K H1 l (ns.map V.int) ∧ ns.length ≤ 62 ∧
  ∀ (pp : Addr) (zs : List Int), zs.Pairwise (· < ·) → (∀ k, k ∈ zs ↔ k ∈ ns) → H1 pp = none → Q (.ref pp) (upd H1 pp (.lst (zs.map V.int)))
/-- len(set(xs)) -/
def tSetL (K : PySem.W.Frag) (t : TE) : TE := fun σ H Q => t σ H fun x H1 => ∃ (l : Addr) (ns : List Int), x = .ref l ∧ SqL K H1 l (ns.map V.int) ∧ ns.length ≤ 62 ∧
  ∀ zs : List Int, zs.Nodup → (∀ k, k ∈ zs ↔ k ∈ ns) → Q (.int (zs.length : Nat)) H1
theorem pe_setS {X : Cx} {ta : TE} (hc : X.calm = true) (hg : Gl X "sorted") (hm : X.mg "sorted" = none) (hg2 : Gl X "set") (hm2 : X.mg "set" = none) (ha : PE X a ta)
    (na : starEach [a] X.env = (false, eval a X.env) :: starEach [] X.env := by rfl) : PE X (.Call (.Name "sorted" p) [.Call (.Name "set" q) [a] [] ppos] [] pos) (tSetS X.K ta) := by
  refine ⟨fun pins s σ H Q I h => ?_⟩
  refine Call_ (ld_blt I hg hm boot_sorted ?_)
  refine callWith_builtin1 (args_cons ?_ rfl) rfl rfl
  refine Call_ (ld_blt I hg2 hm2 boot_set ?_)
  refine callWith_type1 (args_cons (thn (ha.run pins s σ H _ I h) fun v s1 ⟨x, H1, I1, r1, q1⟩ => args_nil ?_) na) na rfl
  obtain ⟨l, ns, rfl, hq, hl, q1⟩ := q1
  cases r1
  obtain ⟨its, r, pl, hz⟩ := I1.list hq
  refine call_set_listI ns (I1.ok.hd hc) pl.isList (by simpa using r.ints) (by unfold scanBound; omega) fun h' tk c hS hcl hk => ?_
  refine args_nil ?_
  have I2 : Inv X pins σ H1 { s1 with heap := h', toks := tk } := I1.kept (t' := tk) hk
  have hS2 : SetR X.w ({ s1 with heap := h', toks := tk } : Shared).heap s1.heap.objs.size (fun j => decide (j ∈ ns)) c := hS
  generalize ({ s1 with heap := h', toks := tk } : Shared) = s2 at I2 hS2 ⊢
  refine sorted_set (s := s2) hS2 (I2.ok.hd hc) (by omega) fun s' l2 out c2 zs k1 g1 o1 hz2 hc2 hi hlt hmem hlen => ?_
  have hp : H1 l2 = none := I2.hok.fresh hz2
  have zl : (zs.map V.int).length ≤ sizeLine := by rw [List.length_map, hlen, sizeLine_eq]; omega
  have J : Inv X pins σ (upd H1 l2 (.lst (zs.map V.int))) { s2 with heap := s'.heap, gens := s'.gens, drawn := s'.drawn, toks := s'.toks } :=
    I2.call (ch := []) (Un.laid k1 hz2 hp) (I2.hok.laid k1 hz2 ⟨zl, out.toList, c2, vals_of_ints hi, hc2⟩) (by rw [g1]; exact I2.bare) (fun _ z => nomatch z)
  have e : s' = { s2 with heap := s'.heap, gens := s'.gens, drawn := s'.drawn, toks := s'.toks } := by
    cases s'
    cases s2
    cases o1
    rfl
  rw [e]
  exact ⟨.ref l2, _, J, rfl, q1 l2 zs hlt (fun k => (hmem k).trans decide_eq_true_iff) hp⟩
theorem pe_setL {X : Cx} {ta : TE} (hc : X.calm = true) (hg : Gl X "len") (hm : X.mg "len" = none) (hg2 : Gl X "set") (hm2 : X.mg "set" = none) (ha : PE X a ta)
    (na : starEach [a] X.env = (false, eval a X.env) :: starEach [] X.env := by rfl) : PE X (.Call (.Name "len" p) [.Call (.Name "set" q) [a] [] ppos] [] pos) (tSetL X.K ta) := by
  refine ⟨fun pins s σ H Q I h => ?_⟩
  refine Call_ (ld_blt I hg hm boot_len ?_)
  refine callWith_builtin1 (args_cons ?_ rfl) rfl rfl
  refine Call_ (ld_blt I hg2 hm2 boot_set ?_)
  refine callWith_type1 (args_cons (thn (ha.run pins s σ H _ I h) fun v s1 ⟨x, H1, I1, r1, q1⟩ => args_nil ?_) na) na rfl
  obtain ⟨l, ns, rfl, hq, hl, q1⟩ := q1
  cases r1
  obtain ⟨its, r, pl, hz⟩ := I1.list hq
  refine call_set_listI ns (I1.ok.hd hc) pl.isList (by simpa using r.ints) (by unfold scanBound; omega) fun h' tk c hS hcl hk => ?_
  refine args_nil ?_
  have I2 : Inv X pins σ H1 { s1 with heap := h', toks := tk } := I1.kept (t' := tk) hk
  obtain ⟨o, es, ep, t, ho, hex, hd, hge, hnd, hmem, hlt, hf, hn, hr⟩ := hS
  have q := q1 (es.toList.map keyOf) hnd (fun k => (hmem k).symm.trans decide_eq_true_iff)
  rw [List.length_map, Array.length_toList] at q
  exact call_len_set ho hex hd hf (by rw [hn] <;> omega) ⟨.int (es.size : Nat), H1, I2.tok _, ⟨_, rfl⟩, q⟩
/-- sorted(set(xs)) of a list of numbers -/
theorem snd_sortedSet (R : Rng Γ C) {X : Cx} (hc : X.calm = true) (hg : Gl X "sorted") (hm : X.mg "sorted" = none) (hg2 : Gl X "set") (hm2 : X.mg "set" = none) (ha : Snd X C a ga) :
    Snd X C (.Call (.Name "sorted" p) [.Call (.Name "set" q) [a] [] ppos] [] pos) (fun σ m => REbind (ga σ m) fun x m1 => qSortedSet Γ x m1) :=
  Snd.val ⟨fun _ _ => rfl, fun _ _ => rfl, fun _ _ => rfl, fun op => by cases op <;> rfl, fun _ _ _ => rfl, fun _ _ _ _ => rfl⟩ ((pe_setS hc hg hm hg2 hm2 ha.pe (by rw [ha.nice.star])).mono fun σ H Q ⟨ι, σ', m, s, S, pp⟩ => by
    refine tG_bind s S pp fun ι1 H1 w v m1 l1 t1 s1 S1 r1 p1 => ?_
    obtain ⟨n, xs, rfl, hm1, p1⟩ := getL_inv p1
    obtain ⟨hb, p1⟩ := PostE.ifF p1
    rw [Bool.and_eq_true] at hb
    unfold qSortedSetN at p1
    obtain ⟨zs, e1, p1⟩ := PostE.lift p1
    obtain ⟨ys, e2, p1⟩ := PostE.lift p1
    obtain ⟨d1, d2, d3⟩ := dedW_num (C := C) R hb.1 (acc := []) rfl List.nodup_nil e1
    obtain ⟨f1, f2, f3⟩ := sort_num (C := C) R d1 d2 e2
    cases r1 with
    | ref hn =>
      rename_i a1
      obtain ⟨a', e0, vs, h1, h2⟩ := S1.ob n _ hm1
      rw [hn] at e0; cases e0
      have ev := reps_num_eq hb.1 h2
      subst ev
      refine ⟨a1, _, rfl, .inl (.inl h1), by rw [List.length_map]; exact Nat.le_of_ble_eq_true hb.2, fun pp zs' hz hmem hp => ?_⟩
      have ez : zs' = ys.map (nV C.x) := mem_sorted_eq hz f2 fun k => by
        rw [hmem k, f3 k, d3 k]; simp
      subst ez
      exact (post_newL S1 (reps_num f1) (PostE.mono (fun a m => QV.base l1 t1) p1)).2 pp hp) fun _ => rfl
/-- len(set(xs)) of a list of numbers -/
theorem snd_lenSet (R : Rng Γ C) {X : Cx} (hc : X.calm = true) (hg : Gl X "len") (hm : X.mg "len" = none) (hg2 : Gl X "set") (hm2 : X.mg "set" = none) (ha : Snd X C a ga) :
    Snd X C (.Call (.Name "len" p) [.Call (.Name "set" q) [a] [] ppos] [] pos) (fun σ m => REbind (ga σ m) fun x m1 => qLenSet Γ x m1) :=
  Snd.val ⟨fun _ _ => rfl, fun _ _ => rfl, fun _ _ => rfl, fun op => by cases op <;> rfl, fun _ _ _ => rfl, fun _ _ _ _ => rfl⟩ ((pe_setL hc hg hm hg2 hm2 ha.pe (by rw [ha.nice.star])).mono fun σ H Q ⟨ι, σ', m, s, S, pp⟩ => by
    refine tG_bind s S pp fun ι1 H1 w v m1 l1 t1 s1 S1 r1 p1 => ?_
    have p1 : PostE (QV X.K C ι H Q) (qLenSet Γ w m1) := p1
    unfold qLenSet at p1
    obtain ⟨n, xs, rfl, hm1, p1⟩ := getL_inv p1
    obtain ⟨hb, p1⟩ := PostE.ifF p1
    rw [Bool.and_eq_true] at hb
    obtain ⟨zs, e1, p1⟩ := PostE.lift p1
    obtain ⟨d1, d2, d3⟩ := dedW_num (C := C) R hb.1 (acc := []) rfl List.nodup_nil e1
    cases r1 with
    | ref hn =>
      rename_i a1
      obtain ⟨a', e0, vs, h1, h2⟩ := S1.ob n _ hm1
      rw [hn] at e0; cases e0
      have ev := reps_num_eq hb.1 h2
      subst ev
      refine ⟨a1, _, rfl, .inl (.inl h1), by rw [List.length_map]; exact Nat.le_of_ble_eq_true hb.2, fun zs' hz hmem => ?_⟩
      have ez : zs'.length = zs.length := by
        have := ((List.perm_ext_iff_of_nodup hz d2).mpr fun k => by rw [hmem k, d3 k]; simp).length_eq
        rwa [List.length_map] at this
      rw [ez]
      exact post_ok S1 (.int _) (PostE.mono (fun a m => QV.base l1 t1) p1)) fun _ => rfl
end
end
end Jw

/-! sorted(set(xs)), xs tuples of whole numbers not below 0. -/
namespace Jw
open PySem PySem.Calls PySem.Spec PyProof.Rows L2
noncomputable section
section
variable {C : Cn} {m : M} {Γ : Pg} {ι : Im} {lo hi : Int}
theorem sgn2_ok (h1 : lo ≤ C.x) (h2 : C.x ≤ hi) {a b : W} {s : Nat} (ha : isNum a = true) (hb : isNum b = true) (h : sgn2 lo hi a b = .ok s) : s = sgn (nV C.x a - nV C.x b) := by
  cases a with
  | int x =>
    cases b with
    | int y => have h : (.ok (sgn (x - y)) : Except Er Nat) = .ok s := h; cases h; rfl
    | aff c k =>
      have h : signOf lo hi (x - c) (0 - k) = .ok s := h
      rw [signOf_ok h1 h2 h]
      show sgn _ = sgn (x - (c + k * C.x))
      rw [Int.zero_sub, Int.neg_mul]
      congr 1; omega
    | _ => cases hb
  | aff c k =>
    cases b with
    | int y =>
      have h : signOf lo hi (c - y) k = .ok s := h
      rw [signOf_ok h1 h2 h]
      show sgn _ = sgn ((c + k * C.x) - y)
      congr 1; omega
    | aff c' k' =>
      have h : signOf lo hi (c - c') (k - k') = .ok s := h
      rw [signOf_ok h1 h2 h]
      show sgn _ = sgn ((c + k * C.x) - (c' + k' * C.x))
      rw [Int.sub_mul]
      congr 1; omega
    | _ => cases hb
  | _ => cases ha
theorem cmp3_ok (h1 : lo ≤ C.x) (h2 : C.x ≤ hi) {B : Int} : ∀ {xs ys : List W} {s : Nat}, allL isNum xs = true → allL isNum ys = true → xs.length = ys.length → TS.Bd B (xs.map (nV C.x)) → TS.Bd B (ys.map (nV C.x)) → cmp3 lo hi xs ys = .ok s →
    s = sgn (TS.code B (xs.map (nV C.x)) - TS.code B (ys.map (nV C.x)))
  | [], [], s, _, _, _, _, _, h => by
    have h : (.ok 1 : Except Er Nat) = .ok s := h
    cases h; rfl
  | [], _ :: _, _, _, _, hl, _, _, _ => by cases hl
  | _ :: _, [], _, _, _, hl, _, _, _ => by cases hl
  | x :: xs, y :: ys, s, hx, hy, hl, bx, by_, h => by
    obtain ⟨x1, x2⟩ := allL_cons hx
    obtain ⟨y1, y2⟩ := allL_cons hy
    have hl' : xs.length = ys.length := by simpa using hl
    have hl2 : (xs.map (nV C.x)).length = (ys.map (nV C.x)).length := by rw [List.length_map, List.length_map, hl']
    rw [List.map_cons] at bx by_ ⊢
    rw [List.map_cons]
    obtain ⟨s0, e, h⟩ := exB_ok (show exB (sgn2 lo hi x y) (fun s => Bool.rec (.ok s) (cmp3 lo hi xs ys) (Nat.beq s 1)) = .ok s from h)
    have e0 := sgn2_ok h1 h2 x1 y1 e
    cases hb : Nat.beq s0 1 with
    | true =>
      rw [hb] at h
      have h : cmp3 lo hi xs ys = .ok s := h
      have ih := cmp3_ok h1 h2 x2 y2 hl' bx.tail by_.tail h
      rw [Nat.eq_of_beq_eq_true hb] at e0
      have z := sgn_zero.mp e0.symm
      have e1 : nV C.x x = nV C.x y := by omega
      rw [ih, e1]
      show sgn _ = sgn ((nV C.x y * B ^ (xs.map (nV C.x)).length + TS.code B (xs.map (nV C.x))) - (nV C.x y * B ^ (ys.map (nV C.x)).length + TS.code B (ys.map (nV C.x))))
      rw [hl2]
      congr 1; omega
    | false =>
      rw [hb] at h
      have h : (.ok s0 : Except Er Nat) = .ok s := h
      cases h
      have ne : nV C.x x - nV C.x y ≠ 0 := fun z => by rw [sgn_zero.mpr z] at e0; rw [e0] at hb; cases hb
      rcases Int.lt_or_gt_of_ne ne with z | z
      · have q := TS.code_lt hl2 bx.tail by_.tail (show nV C.x x < nV C.x y by omega)
        rw [e0, sgn_neg.mpr z, sgn_neg.mpr (by omega)]
      · have q := TS.code_lt hl2.symm by_.tail bx.tail (show nV C.x y < nV C.x x by omega)
        rw [e0, sgn_pos.mpr z, sgn_pos.mpr (by omega)]
theorem code_inj {B : Int} : ∀ {xs ys : List Int}, xs.length = ys.length → TS.Bd B xs → TS.Bd B ys → TS.code B xs = TS.code B ys → xs = ys
  | [], [], _, _, _, _ => rfl
  | [], _ :: _, h, _, _, _ => by cases h
  | _ :: _, [], h, _, _, _ => by cases h
  | x :: xs, y :: ys, hl, bx, by_, h => by
    have hl' : xs.length = ys.length := by simpa using hl
    have e : x = y := by
      rcases Int.lt_trichotomy x y with z | z | z
      · have := TS.code_lt hl' bx.tail by_.tail z; omega
      · exact z
      · have := TS.code_lt hl'.symm by_.tail bx.tail z; omega
    subst e
    have h : x * B ^ xs.length + TS.code B xs = x * B ^ ys.length + TS.code B ys := h
    rw [hl'] at h
    rw [code_inj hl' bx.tail by_.tail (by omega)]
/-- a tuple of d numbers from 0 to B -/
structure TupW (C : Cn) (B : Int) (d : Nat) (w : W) : Prop where
  eq : w = .tup (tupI w)
  num : allL isNum (tupI w) = true
  len : (tupI w).length = d
  bd : TS.Bd B ((tupI w).map (nV C.x))
/-- its ints, its code -/
def tV (x : Int) (w : W) : List Int := (tupI w).map (nV x)
def cd (x B : Int) (w : W) : Int := TS.code B (tV x w)
variable {B : Int} {d : Nat}
theorem insU_ok (h1 : lo ≤ C.x) (h2 : C.x ≤ hi) {x : W} (hx : TupW C B d x) : ∀ {l r : List W}, (∀ w ∈ l, TupW C B d w) → (l.map (cd C.x B)).Pairwise (· < ·) → insU lo hi x l = .ok r →
    (r.map (cd C.x B)).Pairwise (· < ·) ∧ (∀ k, k ∈ r.map (cd C.x B) ↔ k = cd C.x B x ∨ k ∈ l.map (cd C.x B)) ∧ ∀ w ∈ r, w = x ∨ w ∈ l
  | [], r, _, _, h => by
    have h : (.ok [x] : Except Er (List W)) = .ok r := h
    cases h
    exact ⟨List.pairwise_singleton .., fun k => by simp, fun w hw => .inl (by simpa using hw)⟩
  | y :: ys, r, hl, hp, h => by
    have hy := hl y (List.mem_cons_self ..)
    obtain ⟨s, e, h⟩ := exB_ok (show exB (cmp3 lo hi (tupI x) (tupI y)) (fun s => Nat.casesOn s (.ok (x :: y :: ys)) fun s' => Nat.casesOn s' (.ok (y :: ys)) fun _ => exB (insU lo hi x ys) fun zs => .ok (y :: zs)) = .ok r from h)
    have es : s = sgn (cd C.x B x - cd C.x B y) := cmp3_ok h1 h2 hx.num hy.num (hx.len.trans hy.len.symm) hx.bd hy.bd e
    rw [List.map_cons, List.pairwise_cons] at hp
    match s, es, h with
    | 0, es, h =>
      have h : (.ok (x :: y :: ys) : Except Er (List W)) = .ok r := h
      cases h
      have z := sgn_neg.mp es.symm
      refine ⟨?_, fun k => by simp, fun w hw => by simpa using hw⟩
      rw [List.map_cons, List.map_cons, List.pairwise_cons, List.pairwise_cons]
      refine ⟨fun k hk => ?_, hp⟩
      rcases List.mem_cons.mp hk with rfl | hk
      · omega
      · have := hp.1 k hk; omega
    | 1, es, h =>
      have h : (.ok (y :: ys) : Except Er (List W)) = .ok r := h
      cases h
      have z := sgn_zero.mp es.symm
      have z : cd C.x B x = cd C.x B y := by omega
      refine ⟨by rw [List.map_cons, List.pairwise_cons]; exact hp, fun k => ?_, fun w hw => .inr hw⟩
      rw [z]; simp
    | s + 2, es, h =>
      have h : exB (insU lo hi x ys) (fun zs => .ok (y :: zs)) = .ok r := h
      obtain ⟨zs, e2, h⟩ := exB_ok h
      cases h
      have z : 0 < cd C.x B x - cd C.x B y := by
        rcases Int.lt_trichotomy (cd C.x B x - cd C.x B y) 0 with z | z | z
        · rw [sgn_neg.mpr z] at es; cases es
        · rw [sgn_zero.mpr z] at es; cases es
        · exact z
      obtain ⟨g1, g2, g3⟩ := insU_ok h1 h2 hx (fun w hw => hl w (List.mem_cons_of_mem _ hw)) hp.2 e2
      refine ⟨?_, fun k => ?_, fun w hw => ?_⟩
      · rw [List.map_cons, List.pairwise_cons]
        refine ⟨fun k hk => ?_, g1⟩
        rcases (g2 k).mp hk with rfl | hk
        · omega
        · exact hp.1 k hk
      · rw [List.map_cons, List.map_cons, List.mem_cons, List.mem_cons, g2 k]
        constructor
        · rintro (q | q | q)
          · exact .inr (.inl q)
          · exact .inl q
          · exact .inr (.inr q)
        · rintro (q | q | q)
          · exact .inr (.inl q)
          · exact .inl q
          · exact .inr (.inr q)
      · rcases List.mem_cons.mp hw with rfl | hw
        · exact .inr (List.mem_cons_self ..)
        · rcases g3 w hw with q | q
          · exact .inl q
          · exact .inr (List.mem_cons_of_mem _ q)
theorem sortU_ok (h1 : lo ≤ C.x) (h2 : C.x ≤ hi) : ∀ {xs acc r : List W}, (∀ w ∈ xs, TupW C B d w) → (∀ w ∈ acc, TupW C B d w) → (acc.map (cd C.x B)).Pairwise (· < ·) → sortU lo hi xs acc = .ok r →
    (r.map (cd C.x B)).Pairwise (· < ·) ∧ (∀ k, k ∈ r.map (cd C.x B) ↔ k ∈ xs.map (cd C.x B) ∨ k ∈ acc.map (cd C.x B)) ∧ ∀ w ∈ r, w ∈ xs ∨ w ∈ acc
  | [], acc, r, _, _, hp, h => by
    have h : (.ok acc : Except Er (List W)) = .ok r := h
    cases h
    exact ⟨hp, fun k => by simp, fun w hw => .inr hw⟩
  | x :: xs, acc, r, hx, ha, hp, h => by
    obtain ⟨a2, e, h⟩ := exB_ok (show exB (insU lo hi x acc) (sortU lo hi xs) = .ok r from h)
    obtain ⟨g1, g2, g3⟩ := insU_ok h1 h2 (hx x (List.mem_cons_self ..)) ha hp e
    have ha2 : ∀ w ∈ a2, TupW C B d w := fun w hw => (g3 w hw).elim (fun z => z ▸ hx x (List.mem_cons_self ..)) (ha w)
    obtain ⟨f1, f2, f3⟩ := sortU_ok h1 h2 (fun w hw => hx w (List.mem_cons_of_mem _ hw)) ha2 g1 h
    refine ⟨f1, fun k => ?_, fun w hw => ?_⟩
    · rw [f2 k, g2 k, List.map_cons, List.mem_cons]
      constructor
      · rintro (q | q | q)
        · exact .inl (.inr q)
        · exact .inl (.inl q)
        · exact .inr q
      · rintro ((q | q) | q)
        · exact .inr (.inl q)
        · exact .inl q
        · exact .inr (.inr q)
    · rcases f3 w hw with q | q
      · exact .inl (List.mem_cons_of_mem _ q)
      · rcases g3 w q with rfl | q
        · exact .inl (List.mem_cons_self ..)
        · exact .inr q
theorem nnW_ok (h1 : lo ≤ C.x) (h2 : C.x ≤ hi) {w : W} (h : nnW lo hi w = .ok true) : 0 ≤ nV C.x w := by
  cases w with
  | int i =>
    have h : (.ok (!ilt i 0) : EB) = .ok true := h
    injection h with h
    show 0 ≤ i
    cases hi : ilt i 0 with
    | true => rw [hi] at h; cases h
    | false =>
      rw [ilt_iff] at hi
      have := of_decide_eq_false hi
      omega
  | aff c k =>
    obtain ⟨s, e, h⟩ := exB_ok (show exB (signOf lo hi c k) (fun s => .ok (!(Nat.beq s 0))) = .ok true from h)
    have es := signOf_ok h1 h2 e
    show 0 ≤ c + k * C.x
    rcases Int.lt_or_le (c + k * C.x) 0 with z | z
    · rw [sgn_neg.mpr z] at es
      subst es; cases h
    · exact z
  | _ => cases h
theorem nnL_ok (h1 : lo ≤ C.x) (h2 : C.x ≤ hi) : ∀ {l : List W}, nnL lo hi l = .ok true → ∀ w ∈ l, 0 ≤ nV C.x w
  | [], _, w, hw => by cases hw
  | x :: xs, h, w, hw => by
    rcases exIf_ok (show exIf (nnW lo hi x) (nnL lo hi xs) (.ok false) = .ok true from h) with ⟨e1, e2⟩ | ⟨_, e2⟩
    · rcases List.mem_cons.mp hw with rfl | hw
      · exact nnW_ok h1 h2 e1
      · exact nnL_ok h1 h2 e2 w hw
    · cases e2
/-- without the bound -/
structure TupN (C : Cn) (d : Nat) (w : W) : Prop where
  eq : w = .tup (tupI w)
  num : allL isNum (tupI w) = true
  len : (tupI w).length = d
  nn : ∀ u ∈ tupI w, 0 ≤ nV C.x u
theorem tupOk1_ok (h1 : lo ≤ C.x) (h2 : C.x ≤ hi) {w : W} (h : tupOk1 lo hi d w = .ok true) : TupN C d w := by
  cases w with
  | tup ws =>
    have h : ifB (Nat.beq ws.length d && allL isNum ws) (nnL lo hi ws) (.ok false) = .ok true := h
    cases hb : (Nat.beq ws.length d && allL isNum ws) with
    | false => rw [hb] at h; cases h
    | true =>
      rw [hb] at h
      have h : nnL lo hi ws = .ok true := h
      rw [Bool.and_eq_true] at hb
      exact ⟨rfl, hb.2, Nat.eq_of_beq_eq_true hb.1, nnL_ok h1 h2 h⟩
  | _ => cases h
theorem tupsOk_ok (h1 : lo ≤ C.x) (h2 : C.x ≤ hi) : ∀ {l : List W}, tupsOk lo hi d l = .ok true → ∀ w ∈ l, TupN C d w
  | [], _, w, hw => by cases hw
  | x :: xs, h, w, hw => by
    rcases exIf_ok (show exIf (tupOk1 lo hi d x) (tupsOk lo hi d xs) (.ok false) = .ok true from h) with ⟨e1, e2⟩ | ⟨_, e2⟩
    · rcases List.mem_cons.mp hw with rfl | hw
      · exact tupOk1_ok h1 h2 e1
      · exact tupsOk_ok h1 h2 e2 w hw
    · cases e2
/-- a bound -/
theorem bound_one : ∀ ns : List Int, ∃ B : Int, 0 ≤ B ∧ ∀ k ∈ ns, k < B
  | [] => ⟨0, Int.le_refl _, fun _ h => by cases h⟩
  | n :: ns => by
    obtain ⟨B, h0, h⟩ := bound_one ns
    refine ⟨B + n.natAbs + 1, by omega, fun k hk => ?_⟩
    rcases List.mem_cons.mp hk with rfl | hk
    · omega
    · have := h k hk; omega
theorem bound_all (l : List W) : ∃ B : Int, ∀ w ∈ l, ∀ u ∈ tupI w, nV C.x u < B := by
  obtain ⟨B, _, h⟩ := bound_one ((l.map tupI).flatten.map (nV C.x))
  exact ⟨B, fun w hw u hu => h _ (List.mem_map_of_mem (List.mem_flatten.mpr ⟨_, List.mem_map_of_mem hw, hu⟩))⟩
theorem TupN.to {w : W} (h : TupN C d w) (hb : ∀ u ∈ tupI w, nV C.x u < B) : TupW C B d w := ⟨h.eq, h.num, h.len, fun k hk => by
  obtain ⟨u, hu, rfl⟩ := List.mem_map.mp hk
  exact ⟨h.nn u hu, hb u hu⟩⟩
/-- the addresses of tuples of numbers -/
theorem tups_at {H : Hp} {K : PySem.W.Frag} : ∀ {ws : List W} {vs : List V}, (∀ w ∈ ws, TupN C d w) → RepVs C (TT' K H) ι ws vs →
    ∃ ks : List (Addr × List Int), vs = ks.map (fun p => V.ref p.1) ∧ ks.map (·.2) = ws.map (tV C.x) ∧ ∀ p ∈ ks, H p.1 = some (.tup (p.2.map V.int))
  | _, _, _, .nil => ⟨[], rfl, rfl, fun p hp => by cases hp⟩
  | w :: ws, v :: vs, h, .cons a r => by
    obtain ⟨ks, rfl, e2, e3⟩ := tups_at (fun w hw => h w (List.mem_cons_of_mem _ hw)) r
    have hw := h w (List.mem_cons_self ..)
    rw [hw.eq] at a
    cases a with
    | tup ht rs =>
      rename_i us q
      have e := reps_num_eq hw.num rs
      refine ⟨(q, tV C.x w) :: ks, rfl, by rw [List.map_cons, List.map_cons, e2], fun p hp => ?_⟩
      rcases List.mem_cons.mp hp with rfl | hp
      · show H q = some (.tup ((tV C.x w).map V.int))
        rw [show (tV C.x w).map V.int = us from e.symm]; exact ht
      · exact e3 p hp
variable {a : Expr} {ga : Sl → M → RE W} {pos ppos p q : Pos}
/-- sorted(set(xs)) of a list of tuples -/
theorem snd_sortedSetT (R : Rng Γ C) {X : Cx} (hc : X.calm = true) (hu : X.A.units + 64 < cLine) (hg : Gl X "sorted") (hm : X.mg "sorted" = none) (hg2 : Gl X "set") (hm2 : X.mg "set" = none) (ha : Snd X C a ga) :
    Snd X C (.Call (.Name "sorted" p) [.Call (.Name "set" q) [a] [] ppos] [] pos) (fun σ m => REbind (ga σ m) fun x m1 => qSortedSetU Γ x m1) :=
  Snd.val ⟨fun _ _ => rfl, fun _ _ => rfl, fun _ _ => rfl, fun op => by cases op <;> rfl, fun _ _ _ => rfl, fun _ _ _ _ => rfl⟩ ((pe_callB (cr_sortedT hc) hg hm boot_sorted (pa_cons (pe_callTy (cr_setOfT hc hu) hg2 hm2 boot_set (pa_cons ha.pe pa_nil (ha.nice.star _ _)) (by decide) (by decide) (ha.nice.star _ _) rfl) pa_nil rfl) (by decide) (by decide) rfl rfl).mono fun σ H Q ⟨ι, σ', m, s, S, pp⟩ => by
    refine tG_bind s S pp fun ι1 H1 w v m1 l1 t1 s1 S1 r1 p1 => ?_
    obtain ⟨n, xs, rfl, hm1, p1⟩ := getL_inv p1
    obtain ⟨hl, p1⟩ := PostE.ifF p1
    unfold qSortedSetT at p1
    obtain ⟨bb, e1, p1⟩ := PostE.lift p1
    have hb : (bb && Nat.blt 0 (dimOf xs)) = true := by
      cases hq : (bb && Nat.blt 0 (dimOf xs)) with
      | true => rfl
      | false => rw [hq] at p1; exact p1.elim
    rw [Bool.and_eq_true] at hb
    obtain ⟨rfl, hd⟩ := hb
    have p1 : PostE (QV X.K C ι H Q) (ifB (true && Nat.blt 0 (dimOf xs)) (lift (sortU Γ.lo Γ.hi xs []) fun ys => newL ys m1) (.er (.stuck 55))) := p1
    obtain ⟨_, p1⟩ := PostE.ifF p1
    obtain ⟨ys, e2, p1⟩ := PostE.lift p1
    have hN := tupsOk_ok R.lo R.hi e1
    obtain ⟨B, hB⟩ := bound_all (C := C) xs
    have hW : ∀ w ∈ xs, TupW C B (dimOf xs) w := fun w hw => (hN w hw).to (hB w hw)
    obtain ⟨f1, f2, f3⟩ := sortU_ok R.lo R.hi hW (fun w hw => by cases hw) (by exact List.Pairwise.nil) e2
    cases r1 with
    | ref hn =>
      rename_i a1
      obtain ⟨a', e0, vs, h1, h2⟩ := S1.ob n _ hm1
      rw [hn] at e0; cases e0
      obtain ⟨ks, rfl, g1, g2⟩ := tups_at hN h2
      have kl : ks.length = xs.length := by
        have := congrArg List.length g1
        simpa using this
      have kW : ∀ p ∈ ks, ∃ w ∈ xs, tV C.x w = p.2 := fun p hp => by
        have : p.2 ∈ xs.map (tV C.x) := by rw [← g1]; exact List.mem_map_of_mem hp
        exact List.mem_map.mp this
      refine ⟨a1, ks, rfl, .inl (.inl h1), fun p hp => SqT.of (g2 p hp), by have := Nat.le_of_ble_eq_true hl; omega, fun sa L hs hL1 hL2 => ?_⟩
      have gr : ∀ b o, H1 b = some o → upd H1 sa (SetTO X.prog X.w sa L) b = some o := fun b o e => by rw [upd_ne (ne_of_none e hs)]; exact e
      have S2 := simH_grow S1 gr
      have tk : Tk X.K H1 (upd H1 sa (SetTO X.prog X.w sa L)) := .ext gr
      have LW : ∀ p ∈ L, ∃ w ∈ xs, tV C.x w = p.2 := fun p hp => kW p (hL1 p hp)
      refine ⟨sa, L, dimOf xs, B, rfl, upd_same, fun p hp => SqT.of (gr _ _ (g2 p (hL1 p hp))), Nat.blt_eq.mp hd, fun p hp => ?_, fun L' pp hperm hnd hlen hpw hpp => ?_⟩
      · obtain ⟨w, hw, e⟩ := LW p hp
        rw [← e]
        exact ⟨by unfold tV; rw [List.length_map]; exact (hW w hw).len, (hW w hw).bd⟩
      · have hB' : ∀ p ∈ L', p.2.length = dimOf xs ∧ TS.Bd B p.2 := fun p hp => by
          obtain ⟨w, hw, e⟩ := LW p (hperm.mem_iff.mp hp)
          rw [← e]
          exact ⟨by unfold tV; rw [List.length_map]; exact (hW w hw).len, (hW w hw).bd⟩
        have hst : (L'.map fun p => TS.code B p.2).Pairwise (· < ·) := by
          rw [List.pairwise_map]
          have hnd' : L'.Pairwise (fun p q => p.2 ≠ q.2) := by
            have := hnd
            rw [List.Nodup, List.pairwise_map] at this
            exact this
          refine (hpw.and hnd').imp_of_mem fun {p q} hp hq h => ?_
          rcases Int.lt_or_eq_of_le h.1 with z | z
          · exact z
          · exact absurd (code_inj ((hB' p hp).1.trans (hB' q hq).1.symm) (hB' p hp).2 (hB' q hq).2 z) h.2
        have hmem : ∀ k, k ∈ (L'.map fun p => TS.code B p.2) ↔ k ∈ ys.map (cd C.x B) := fun k => by
          rw [f2 k]
          constructor
          · intro hk
            obtain ⟨p, hp, rfl⟩ := List.mem_map.mp hk
            obtain ⟨w, hw, e⟩ := LW p (hperm.mem_iff.mp hp)
            exact .inl (List.mem_map.mpr ⟨w, hw, by show TS.code B (tV C.x w) = _; rw [e]⟩)
          · rintro (hk | hk)
            · obtain ⟨w, hw, rfl⟩ := List.mem_map.mp hk
              have : tV C.x w ∈ ks.map (·.2) := by rw [g1]; exact List.mem_map_of_mem hw
              obtain ⟨p, hp, e⟩ := List.mem_map.mp this
              have := hL2 p hp
              obtain ⟨p2, hp2, e2⟩ := List.mem_map.mp this
              exact List.mem_map.mpr ⟨p2, hperm.mem_iff.mpr hp2, by show TS.code B p2.2 = TS.code B (tV C.x w); rw [e2, e]⟩
            · cases hk
        have heq := mem_sorted_eq hst f1 hmem
        have hlen2 : L'.length = ys.length := by
          have := congrArg List.length heq
          simpa using this
        have yW : ∀ w ∈ ys, TupW C B (dimOf xs) w := fun w hw => (f3 w hw).elim (hW w) (fun z => by cases z)
        have rr : RepVs C (TT' X.K (upd H1 sa (SetTO X.prog X.w sa L))) ι1 ys (L'.map fun p => V.ref p.1) := reps_idx (by rw [List.length_map]; exact hlen2.symm) fun j w v ew ev => by
          rw [List.getElem?_map] at ev
          cases hj : L'[j]? with
          | none => rw [hj] at ev; cases ev
          | some p =>
            rw [hj] at ev
            cases ev
            have hpL : p ∈ L' := List.mem_of_getElem? hj
            have hwY := List.mem_of_getElem? ew
            have ec : TS.code B p.2 = cd C.x B w := by
              have q1 : (L'.map fun p => TS.code B p.2)[j]? = some (TS.code B p.2) := by rw [List.getElem?_map, hj]; rfl
              have q2 : (ys.map (cd C.x B))[j]? = some (cd C.x B w) := by rw [List.getElem?_map, ew]; rfl
              rw [heq, q2] at q1
              exact (Option.some.inj q1).symm
            have et : p.2 = tV C.x w := code_inj ((hB' p hpL).1.trans (by unfold tV; rw [List.length_map]; exact (yW w hwY).len.symm)) (hB' p hpL).2 (yW w hwY).bd ec
            rw [(yW w hwY).eq]
            refine .tup (gr _ _ (g2 p (hL1 p (hperm.mem_iff.mp hpL)))) ?_
            rw [et]
            exact reps_num (yW w hwY).num
        exact (post_newL S2 rr (PostE.mono (fun a m => QV.base l1 (t1.trans tk)) p1)).2 pp hpp) fun _ => rfl
end
end
end Jw

/-! Lambdas of one parameter that a built-in calls: key=. -/
namespace Jw
open PySem PySem.Calls PySem.Spec PyProof.Rows L2 LamX
noncomputable section
/-- a parameter of its own, captured names, globals -/
structure LamS1 (sc scope : Scope) (a : Str) : Prop where
  kind : scope.kind = .function
  co : scope.isCoroutine = false
  gen : scope.isGenerator = false
  own : ∀ y ∈ scope.names, y.2 ≠ .cell ∧ (y.2 = .local → y.1 = a)
  free : ∀ y ∈ scope.names, y.2 = .free → sc.names.lookup y.1 = some .cell ∨ sc.names.lookup y.1 = some .free
  loc : scope.names.lookup a = some .local
def lam1B (sc scope : Scope) (a : Str) : Bool :=
  decide (scope.kind = .function) && !scope.isCoroutine && !scope.isGenerator && (scope.names.all fun y => !decide (y.2 = .cell) && (!decide (y.2 = .local) || decide (y.1 = a)) && (!decide (y.2 = .free) || decide (sc.names.lookup y.1 = some .cell) || decide (sc.names.lookup y.1 = some .free))) && decide (scope.names.lookup a = some .local)
theorem lam1_by {sc scope : Scope} {a : Str} (h : lam1B sc scope a = true) : LamS1 sc scope a := by
  unfold lam1B at h
  simp only [Bool.and_eq_true, Bool.or_eq_true, Bool.not_eq_true', decide_eq_true_eq, decide_eq_false_iff_not, List.all_eq_true] at h
  obtain ⟨⟨⟨⟨h1, h2⟩, h3⟩, h4⟩, h5⟩ := h
  refine ⟨h1, h2, h3, fun y hy => ⟨(h4 y hy).1.1, fun e => (h4 y hy).1.2.elim (fun z => absurd e z) id⟩, fun y hy e => ?_, h5⟩
  rcases (h4 y hy).2 with (z | z) | z
  · exact absurd e z
  · exact .inl z
  · exact .inr z
theorem LamS1.has {X : Cx} {scope : Scope} {a : Str} (L : LamS1 X.env.scope scope a) (ok : X.Ok) : ∀ y ∈ scope.names, y.2 = .free → ∃ c, X.env.cells.lookup y.1 = some c := fun y hy e =>
  (L.free y hy e).elim (fun k => ok.has _ (.inl k)) fun k => ok.has _ (.inr k)
section
variable {X : Cx} {pins : List (Addr × Obj)} {σ : L2.St} {H : Hp} {s : Shared}
/-- records of ours may turn -/
theorem turnedL {t' : Nat} {h' : Heap} (its : List Addr) (I : Inv X pins σ H s) (k : ∀ b o, b ∉ its → s.heap.get? b = some o → h'.get? b = some o) (f : ∀ b ∈ its, FpOk X pins H b) : Inv X pins σ H { s with heap := h', toks := t' } := by
  have nit : ∀ b u, H b = some u → b ∉ its := fun b u e z => by rw [(f b z).1] at e; cases e
  refine I.step (g' := s.gens) (d' := s.drawn) (ch := its) (fun b hb => ?_) (fun b o _ _ hc e _ => k b o hc e) (fun b o _ _ hc e _ => ⟨o.slots, k b o hc e⟩) (fun _ _ _ _ n => n)
    (fun b o hc e => ⟨o, k b o hc e⟩) (fun _ _ e => e) (fun _ _ _ e => e) (fun b ps e => ⟨#[], by rw [e]; simp⟩) (fun m hm => ?_) (fun b u e => ?_) I.bare
  · obtain ⟨_, f1, _, f3, f4, f5⟩ := f b hb
    exact ⟨f3, f1, f4, f5⟩
  · obtain ⟨o, es, ep, ho, r⟩ := hm
    exact ⟨o, es, ep, k _ o (fun z => (f _ z).2.1 rfl) ho, r⟩
  · refine (I.hok b u e).stay (fun c v hc q => k c v ?_ q) (fun _ q => q) fun _ _ q => q
    rcases hc with z | z
    · rw [z]; exact nit b u e
    · exact nit c _ z
/-- the lambda's own state at its entry -/
theorem lam1_start {A : Around} {outer : List Env} {E : XK} {scope : Scope} {f c' : Addr} {h₁ : Heap} {tk : Nat} {a : Str} {p : Nat} {v : V} {u : Value} (I : Inv X pins σ H s) (L : LamS1 X.env.scope scope a) (hN : X.N.Nodup) (hp : X.N[p]? = some a) (rv : RelV v u) (e0 : Env0 X.prog X.w X.K X.mg X.base A outer s H) (hd : A.handled = none)
    (hns : h₁.Ns s.heap.objs.size fun y => ([(a, u)] : List (Str × Value)).reverse.lookup y) (kp : ∀ b o, s.heap.get? b = some o → h₁.get? b = some o) :
    Inv (lamCx X A outer s H E scope f c') [] (σ.set p (some v)) H { s with heap := h₁, toks := tk } := by
  have hfree := L.has I.ok
  have cm : ∀ {y c}, (cloFrom X.env.cells scope.names []).lookup y = some c → X.env.cells.lookup y = some c := fun {y c} e => by
    rcases cloFrom_mem (PySem.mem_of_lookup e) with hm | ⟨h1, h2⟩
    · cases hm
    · obtain ⟨c1, hc⟩ := hfree _ h1 rfl
      have hc : X.env.cells.lookup y = some c1 := hc
      have e2 : c = c1 := by
        rw [h2, hc] <;> rfl
      rw [e2]
      exact hc
  have look : ∀ {y}, scope.names.lookup y = some .free → ∃ c, (cloFrom X.env.cells scope.names []).lookup y = some c := fun {y} hl =>
    mem_lookup (cloFrom_has (cells := X.env.cells) (acc := []) (show (y, NameKind.free) ∈ scope.names from PySem.mem_of_lookup hl))
  have cellK : ∀ {c : Addr} {v : Option Value}, s.heap.IsCell c v → h₁.IsCell c v := fun {c v} ⟨o, ho, hd⟩ => ⟨o, kp _ _ ho, hd⟩
  have noA : ∀ b : Addr, b ∉ (lamCx X A outer s H E scope f c').ex := fun b z => absurd (show b ∈ ([] : List Addr) from z) (by simp)
  refine ⟨⟨e0.mod, L.kind, rfl, rfl, Nat.le_refl _, fun y z c e1 e2 => I.ok.inj y z c (cm e1) (cm e2), fun y hy => ?_, fun y c z _ => ?_, fun _ => hd, Around.frames_deeper e0.frames, .inr ⟨rfl, rfl⟩, fun b z => absurd z (noA b), e0.bs, e0.bsz, fun b _ _ => noA b,
      fun b z => absurd z (noA b), e0.funs, e0.frf⟩,
    rfl, e0.bare, Un.kept kp, ⟨_, hns, fun i y v' e1 e2 e3 => ?_⟩, fun y c e => ?_, e0.hok.fresh (Nat.le_refl _), fun y c e => ?_, fun q hq => absurd (show q ∈ ([] : List (Addr × Obj)) ++ [] from hq) (by simp), e0.hok.kept kp, by rw [List.length_set]; exact I.len⟩
  · have hy : scope.names.lookup y = some .cell ∨ scope.names.lookup y = some .free := hy
    rcases hy with hy | hy
    · exact absurd rfl (L.own _ (PySem.mem_of_lookup hy)).1
    · exact look hy
  · have z : false = true := z
    cases z
  · have e3 : Vis scope y := e3
    have e1 : X.N[i]? = some y := e1
    have hlt : p < σ.length := by rw [I.len]; exact (List.getElem?_eq_some_iff.mp hp).1
    rcases e3 with k | k | k
    · have ey : y = a := (L.own _ (PySem.mem_of_lookup k)).2 rfl
      have ei : i = p := nodup_ix hN e1 (by rw [ey]; exact hp)
      rw [ei, List.getElem?_set_self hlt] at e2
      cases e2
      refine ⟨u, rv, .inl ⟨k, ?_⟩⟩
      rw [ey]
      show ([(a, u)] : List (Str × Value)).reverse.lookup a = some u
      simp
    · exact absurd rfl (L.own _ (PySem.mem_of_lookup k)).1
    · have ny : i ≠ p := fun z => by
        have ea : y = a := Option.some.inj (e1.symm.trans (by rw [z]; exact hp))
        have := L.loc
        rw [← ea, k] at this
        cases this
      rw [List.getElem?_set_ne (Ne.symm ny)] at e2
      obtain ⟨m, hn, hl⟩ := I.loc
      have hvis : Vis X.env.scope y := (L.free _ (PySem.mem_of_lookup k) rfl).elim (fun k => .inr (.inl k)) (fun k => .inr (.inr k))
      obtain ⟨w', r, q⟩ := hl i y v' e1 e2 hvis
      obtain ⟨c2, h2⟩ := look k
      refine ⟨w', r, .inr ⟨.inr k, c2, h2, ?_⟩⟩
      have c1 := cm h2
      rcases q with ⟨k', _⟩ | ⟨_, c3, e', z⟩
      · have k' : X.env.scope.names.lookup y = some .local := k'
        rcases L.free _ (PySem.mem_of_lookup k) rfl with k2 | k2 <;> rw [show X.env.scope.names.lookup y = _ from k2] at k' <;> cases k'
      · rw [c1] at e'
        cases e'
        exact cellK z
  · obtain ⟨w', z⟩ := I.cell y c (cm e)
    exact ⟨w', cellK z⟩
  · exact I.freeC y c (cm e)
theorem among_grow {pos : Pos} {cv : Value} (more : List Value) : ∀ l : List Value, TriplesOk l → codeAmong pos l = some cv → codeAmong pos (l ++ more) = some cv := by
  intro l
  fun_induction TriplesOk l with
  | case1 => intro _ h; cases h
  | case2 a t b u x rest ih =>
    intro ht h
    simp only [List.cons_append, codeAmong] at h ⊢
    split at h
    · rename_i q
      rw [if_pos q]; exact h
    · rename_i q
      rw [if_neg q]; exact ih ht h
  | case3 l h1 h2 => intro h; exact h.elim
/-- the code object that the table tells of a place -/
def CodeAt (H : Hp) (P : Addr) (pos : Pos) (c' : Addr) : Prop := ∃ ps : Array Value, H P = some (.tbl ps) ∧ codeAmong pos ps.toList = some (.ref c')
/-- tables grow -/
def Gt (H H' : Hp) : Prop := ∀ P ps, H P = some (.tbl ps) → ∃ more, H' P = some (.tbl (ps ++ more))
theorem CodeAt.grow {T : List (Addr × Str)} {H H' : Hp} {P c' : Addr} {pos : Pos} {q : Str} (c : CodeAt H P pos c') (t : Tabs T H) (hm : (P, q) ∈ T) (g : Gt H H') : CodeAt H' P pos c' := by
  obtain ⟨ps, h1, h2⟩ := c
  obtain ⟨ps', k1, k2, _⟩ := t _ hm
  have k1 : H P = some (.tbl ps') := k1
  rw [h1] at k1
  cases k1
  obtain ⟨more, e⟩ := g P ps h1
  exact ⟨_, e, by rw [Array.toList_append]; exact among_grow _ _ k2 h2⟩
theorem CodeAt.code {T : List (Addr × Str)} {H : Hp} {P c' : Addr} {pos : Pos} {q : Str} (c : CodeAt H P pos c') (t : Tabs T H) (hm : (P, q) ∈ T) : H c' = some (CodeO c' q) := by
  obtain ⟨ps, h1, h2⟩ := c
  obtain ⟨ps', k1, _, k3⟩ := t _ hm
  have k1 : H P = some (.tbl ps') := k1
  rw [h1] at k1
  cases k1
  obtain ⟨c2, e, z⟩ := k3 _ _ h2
  cases e
  exact z
/-- a lambda made: its code object is new, or the table tells it -/
theorem lam_mk {T : List (Addr × Str)} {c P : Addr} {params : Arguments} {body : Expr} {scope : Scope} {pos : Pos} {E : Value → Shared → Prop} {Q : Value → Shared → Prop} (I : Inv X pins σ H s) (TB : TabB X.base X.mg c P) (hcode : X.env.code = .ref c)
    (hm : (P, X.env.qual ++ "<lambda>") ∈ T) (hu : ∀ p ∈ T, p.1 = P → p.2 = X.env.qual ++ "<lambda>") (hT : Tabs T H) (hdef : defaultsOf params X.env = ([], [])) (hfree : ∀ y ∈ scope.names, y.2 = .free → ∃ c, X.env.cells.lookup y.1 = some c)
    (h : ∀ (f c' : Addr) (pm ctv : Value) (H1 : Hp) (s' : Shared), Inv X pins σ H1 s' → ExtN H H1 → Gt H H1 → Tabs T H1 → CodeAt H1 P pos c' → s.heap.objs.size ≤ f →
      s'.heap.get? f = some (PySem.W.kla_obj "<lambda>" (X.env.qual ++ "<lambda>") params body scope (cloFrom X.env.cells scope.names []) pm c' ctv) → H1 f = none → Q (.ref f) s') :
    wpAny (model X.prog X.w) X.A (eval (.Lambda params body scope pos) X.env) Q E s := by
  have tab := hT _ hm
  obtain ⟨ps, hP, ht, ha⟩ := tab
  have bP : s.heap.BuiltinsAt X.mg P := TB.bm.keeps I.bk
  have hP' : s.heap.get? P = some { cls := .none, data := .fields ps } := I.hok P _ hP
  refine PySem.W.kla_eval hdef ?_
  cases hc : codeAmong pos ps.toList with
  | some cv =>
    obtain ⟨c', rfl, hco⟩ := ha pos cv hc
    refine PySem.W.kla_makeFunctionHit (mg := X.mg) (c := c) (P := P) (ps := ps) (closure_ok hfree) I.ok.glob (I.mod.glob.keeps I.bk) hcode (TB.code.keeps I.bk) hP' ht hc bP fun ctv g tk kp sz => ?_
    exact h g.objs.size c' _ ctv H _ (I.kept fun b o e => Heap.get?_push_of_some _ (kp b o e)) (ExtN.refl H) (fun b qs e => ⟨#[], by rw [e, Array.append_empty]⟩) hT ⟨ps, hP, hc⟩ sz (Heap.get?_push_size _ rfl) (I.hok.fresh sz)
  | none =>
    refine PySem.W.kla_makeFunction (mg := X.mg) (c := c) (P := P) (ps := ps) (closure_ok hfree) I.ok.glob (I.mod.glob.keeps I.bk) hcode (TB.code.keeps I.bk) hP' ht hc TB.gP bP fun c' ctv g tk kp lo hi rec tb => ?_
    obtain ⟨c2, oc, us, t, ec, hoc, hd, hv⟩ := rec
    cases ec
    have nC : H c' = none := I.hok.fresh lo
    have sz : s.heap.objs.size ≤ g.objs.size := Nat.le_trans lo (Nat.le_of_lt hi)
    have nPc : P ≠ c' := ne_of_none hP nC
    have grown : ∀ b o, H b = some o → (∀ qs, o ≠ .tbl qs) → upd (upd H P (.tbl (ps ++ #[rawInt pos.line, rawInt pos.col, .ref c']))) c' (CodeO c' (X.env.qual ++ "<lambda>")) b = some o := fun b o e n => by
      rw [upd_ne (ne_of_none e nC), upd_ne (fun z => n ps (by rw [z, hP] at e; exact (Option.some.inj e).symm))]
      exact e
    have new : upd (upd H P (.tbl (ps ++ #[rawInt pos.line, rawInt pos.col, .ref c']))) c' (CodeO c' (X.env.qual ++ "<lambda>")) P = some (.tbl (ps ++ #[rawInt pos.line, rawInt pos.col, .ref c'])) := by rw [upd_ne nPc, upd_same]
    have el : (ps ++ #[rawInt pos.line, rawInt pos.col, .ref c']).toList = ps.toList ++ [rawInt pos.line, rawInt pos.col, .ref c'] := by simp
    have J := inv_table (t' := tk) (more := #[rawInt pos.line, rawInt pos.col, .ref c']) (h' := g.push (PySem.W.kla_obj "<lambda>" (X.env.qual ++ "<lambda>") params body scope (cloFrom X.env.cells scope.names []) ((X.mg "__name__").getD .none) c' ctv)) I hP
      (fun b o hb e => Heap.get?_push_of_some _ (kp b o hb e)) (Heap.get?_push_of_some _ tb) lo ⟨oc, us, t, Heap.get?_push_of_some _ hoc, hd, hv⟩
    have gt : Gt H (upd (upd H P (.tbl (ps ++ #[rawInt pos.line, rawInt pos.col, .ref c']))) c' (CodeO c' (X.env.qual ++ "<lambda>"))) := fun b qs e => by
      by_cases hb : b = P
      · rw [hb] at e ⊢
        rw [hP] at e
        cases e
        exact ⟨_, new⟩
      · exact ⟨#[], by rw [upd_ne (ne_of_none e nC), upd_ne hb, e, Array.append_empty]⟩
    refine h g.objs.size c' _ ctv _ _ J grown gt (fun p hp => ?_) ⟨_, new, by rw [el]; exact codeAmong_snoc _ ht hc⟩ sz (Heap.get?_push_size _ rfl) ?_
    · by_cases hb : p.1 = P
      · rw [hu p hp hb, hb]
        refine ⟨_, new, by rw [el]; exact PySem.TriplesOk_snoc _ _ _ _ ht, fun p2 cv q => ?_⟩
        rw [el] at q
        rcases among_app _ ht q with z | z
        · obtain ⟨c0, z1, z2⟩ := ha p2 cv z
          exact ⟨c0, z1, grown _ _ z2 codeO_ne⟩
        · exact ⟨c', z, upd_same⟩
      · obtain ⟨qs, a1, a2, a3⟩ := hT p hp
        refine ⟨qs, by rw [upd_ne (ne_of_none a1 nC), upd_ne hb]; exact a1, a2, fun p2 cv q => ?_⟩
        obtain ⟨c0, z1, z2⟩ := a3 p2 cv q
        exact ⟨c0, z1, grown _ _ z2 codeO_ne⟩
    · rw [upd_ne (Nat.ne_of_gt hi), upd_ne (Nat.ne_of_gt (Nat.lt_of_lt_of_le (Heap.lt_size hP') sz))]
      exact I.hok.fresh sz
/-- the lambda called -/
theorem lam1_call {A : Around} {scope : Scope} {f c' : Addr} {a : Str} {p k : Nat} {v : V} {u pm ctv : Value} {params : Arguments} {body : Expr} {tb : TE} {Q : VK} {E : Value → Shared → Prop} (I : Inv X pins σ H s) (L : LamS1 X.env.scope scope a) (hN : X.N.Nodup) (hp : X.N[p]? = some a) (rv : RelV v u) (hA : A.frames = some X.stack) (hr : Room (k + 1) A)
    (hf : s.heap.get? f = some (PySem.W.kla_obj "<lambda>" (X.env.qual ++ "<lambda>") params body scope (cloFrom X.env.cells scope.names []) pm c' ctv)) (hc : H c' = some (CodeO c' (X.env.qual ++ "<lambda>")))
    (hbind : ∀ (q : Str) (cl : List (Str × Addr)) (pm cv ctv : Value), bindArgs (PySem.W.kla_fn "<lambda>" q params body scope cl pm cv ctv) ⟨[u], []⟩ = pure [(a, u)])
    (hbody : ∀ (A : Around) (outer : List Env) (s : Shared) (H : Hp), Room k (A.deeper (lamEnv X scope s.heap.objs.size f c')) → PE (lamCx X A outer s H (fun _ _ _ => False) scope f c').nox body tb) (ht : tb (σ.set p (some v)) H Q) :
    wpAny (model X.prog X.w) A (call (.ref f) [u]) (EP X pins σ fun v H2 => Q v H2 ∧ Gt H H2) E s := by
  have e0 : Env0 X.prog X.w X.K X.mg X.base A X.stack s H := ⟨hA, I.ok.mod, I.bs, Nat.le_trans I.ok.bsz I.sz, I.stack, I.stkFree, I.hok, I.bare⟩
  obtain ⟨⟨oc, vs, t, hoc, hdc, hvc⟩, _, _⟩ := I.hok c' _ hc
  have rc : codeAny (model X.prog X.w) A (.call (.ref f) ⟨[u], []⟩) (CR (L2.CX X.prog X.w) X.stack X.prog X.w H s Q (fun _ _ _ => False)) s := by
    refine PySem.W.kla_callFunE hr.depth hf rfl L.co L.gen rfl ⟨c', oc, vs, t, rfl, hoc, hdc, hvc⟩ ?_
    rw [hbind]
    refine wpAny_pure (wpAny_newFunctionEnv (fun y hy => (L.own y hy).1) (fun y hy => by
      have e : y = (a, u) := by simpa using hy
      subst e
      exact L.loc) (fun h₁ hns hsb => ⟨I.nolimit.fresh _ hsb, ?_⟩) L.kind)
    show codeAny _ _ (.expr body (lamEnv X scope s.heap.objs.size f c')) _ _
    have kp : ∀ b o, s.heap.get? b = some o → h₁.get? b = some o := fun b o e => hsb.extBut b o (Nat.ne_of_lt (Heap.lt_size e)) (Heap.get?_push_of_some _ e)
    have J : Inv (lamCx X A X.stack s H (fun _ _ _ => False) scope f c') [] (σ.set p (some v)) H { s with heap := h₁, toks := s.toks + ([(a, u)] : List (Str × Value)).length } := lam1_start I L hN hp rv e0 hr.hd hns kp
    refine PySem.W.kla_codeExpr (wpAny_mono (((hbody A X.stack s H (hr.deeper _)).nox).run [] _ _ H Q J ht) (fun v s' hq => ?_) fun e s' hq => hq)
    obtain ⟨w', H', J', r', q⟩ := hq
    exact ⟨w', H', J'.os, J'.bare, J'.base, J'.hok, r', q⟩
  refine wpAny_call (codeAny_mono rc fun r s' hq => ?_)
  cases r with
  | error e =>
    obtain ⟨_, _, _, _, _, _, _, _, _, _, _, _, z⟩ := (show L2.CX X.prog X.w X.stack H s (fun _ _ _ => False) e s' from hq)
    exact z.elim
  | ok fl =>
    cases fl with
    | ret u' =>
      obtain ⟨v', H', os, bare, un, hok, r', q⟩ := hq
      exact I.after ⟨v', H', os, bare, un, hok, r', q, un.tbls⟩
    | next => exact False.elim hq
    | brk => exact False.elim hq
    | cont => exact False.elim hq
end
end
end Jw

/-! sorted(.., key=f): the calls of f one after another, over our states. -/
namespace Jw
open PySem PySem.Calls PySem.Spec PyProof.Rows L2 LamX
noncomputable section
section
variable {X : Cx} {pins : List (Addr × Obj)} {σ : L2.St} {H : Hp} {s : Shared} {A' : Around} {f : Value} {a kS : Addr} {vs : List Value} {b : Bool} {e1 : Nat}
/-- a pin more -/
theorem pin_cons {p : Addr} {o : Obj} (I : Inv X pins σ H s) (ho : s.heap.get? p = some o) (F : FpOk X pins H p) (hd : ∀ v, o.data ≠ .cell v) : Inv X ((p, o) :: pins) σ H s :=
  I.pins_of fun q hq => (List.mem_cons.mp hq).elim (fun e => by subst e; exact ⟨ho, F.1, F.2.1, F.2.2.1, hd⟩) fun z => I.pin q (List.mem_append_right _ z)
theorem pin_tail {p : Addr × Obj} (I : Inv X (p :: pins) σ H s) : Inv X pins σ H s := I.pins_of fun q hq => I.pin q (List.mem_append_right _ (List.mem_cons_of_mem _ hq))
theorem pin_at {p : Addr} {o : Obj} (I : Inv X ((p, o) :: pins) σ H s) : s.heap.get? p = some o ∧ H p = none := let ⟨h1, h2, _⟩ := I.pin (p, o) (List.mem_append_right _ (List.mem_cons_self ..)); ⟨h1, h2⟩
theorem fpOk_at {p : Addr} {H' : Hp} (F : FpOk X pins H p) (h : H' p = none) : FpOk X pins H' p := ⟨h, F.2⟩
theorem key_rest (T : Nat → List V → Hp → Prop) {E : Value → Shared → Prop} {R : PySem.Fin → Shared → Prop} (I : Inv X pins σ H s) (F : FpOk X pins H kS) (nk : s.heap.get? kS = some (seqObj "list" #[] 0)) (hZ : vs.length ≤ sizeLine) (h0 : T 0 [] H)
    (turn : ∀ (j : Nat) (v : Value) (ks : List V) (H' : Hp) (s' : Shared) (p : Addr × Obj), vs[j]? = some v → ks.length = j → T j ks H' → Inv X (p :: pins) σ H' s' → wpAny (model X.prog X.w) A' (call f [v]) (EP X (p :: pins) σ fun k H2 => T (j + 1) (ks ++ [k]) H2) (fun _ _ => False) s')
    (fin : ∀ (ks : List V) (H' : Hp) (s' : Shared) (kA : Array Value) (e : Nat), Inv X pins σ H' s' → H' kS = none → T vs.length ks H' → s'.heap.get? kS = some (seqObj "list" kA e) → Vals ks kA.toList → kA.size = vs.length → wpAny (model X.prog X.w) A' (ksk_end a b vs.toArray e1 (.ref kS) kA) R E s') :
    wpAny (model X.prog X.w) A' (ksk_rest a f b vs.toArray e1 (.ref kS)) R E s := by
  unfold ksk_rest
  refine wpAny_bind (wpAny_rule ?_)
  rw [List.forIn_toArray]
  refine wpAny_bind (ksk_fold (fun i s' => ∃ (ks : List V) (H' : Hp) (kA : Array Value) (e : Nat), Inv X pins σ H' s' ∧ H' kS = none ∧ s'.heap.get? kS = some (seqObj "list" kA e) ∧ Vals ks kA.toList ∧ ks.length = i ∧ T i ks H') vs 0 s ⟨[], H, #[], 0, I, F.1, nk, .nil, rfl, h0⟩ ?step ?done)
  case step =>
    rintro j v s' hv ⟨ks, H', kA, e, I', hn, nk', r, hl, t⟩
    rw [Nat.zero_add] at hl t
    have hj : j < vs.length := (List.getElem?_eq_some_iff.mp hv).1
    have hz : kA.size ≤ vs.length := by
      have h1 : ks.length = kA.toList.length := r.length
      have h2 : kA.toList.length = kA.size := Array.length_toList
      omega
    have I2 := pin_cons I' nk' (fpOk_at F hn) (fun v z => by cases z)
    refine wpAny_bind (wpAny_attempt (wpAny_mono (turn j v ks H' s' _ hv hl t I2) (fun u s'' he => ?_) fun _ _ z => z.elim))
    obtain ⟨k, H2, I3, rk, t2⟩ := he
    obtain ⟨nk2, hn2⟩ := pin_at I3
    have I4 := pin_tail I3
    have sb := Heap.SameBut.update s''.heap kS (Obj.mapSeq (·.push u))
    obtain ⟨c2, hc2⟩ : ∃ c2, (s''.heap.update kS (Obj.mapSeq (·.push u))).get? kS = some (seqObj "list" (kA.push u) c2) := ⟨_, get?_update_seq nk2 (·.push u)⟩
    refine wpAny_bind (listUpdate_at nk2 rfl ?_ (Nat.le_trans hz hZ) (Nat.le_trans (Nat.le_of_eq (Array.size_push ..)) (Nat.succ_le_succ (Nat.le_trans hz hZ))))
    have I5 : Inv X pins σ H2 { s'' with heap := s''.heap.update kS (Obj.mapSeq (·.push u)), toks := s''.toks } := turnedL [kS] I4 (fun b o hb e => (sb.2 b (by simpa using hb)).trans e) fun b hb => by
      have e : b = kS := by simpa using hb
      subst e
      exact fpOk_at F hn2
    refine wpAny_pure ⟨rfl, ks ++ [k], H2, kA.push u, c2, I5, hn2, hc2, by rw [Array.toList_push]; exact r.append (.cons rk .nil), by rw [List.length_append, hl]; simp, by rw [Nat.zero_add]; exact t2⟩
  case done =>
    rintro s' ⟨ks, H', kA, e, I', hn, nk', r, hl, t⟩
    rw [Nat.zero_add] at hl t
    refine wpAny_bind (listItems_at nk' rfl ?_)
    exact fin ks H' s' kA e I' hn t nk' r ((Array.length_toList (xs := kA)).symm.trans ((show ks.length = kA.toList.length from r.length).symm.trans hl))
/-- what the list to be sorted and its keys are, while f runs -/
theorem key_tree (T : Nat → List V → Hp → Prop) {s2 : Shared} {E : Value → Shared → Prop} {R : PySem.Fin → Shared → Prop} (I : Inv X pins σ H s2) (hZ : vs.length ≤ sizeLine) (h0 : T 0 [] H)
    (turn : ∀ (j : Nat) (v : Value) (ks : List V) (H' : Hp) (s' : Shared) (p q : Addr × Obj), vs[j]? = some v → ks.length = j → T j ks H' → Inv X (p :: q :: pins) σ H' s' → wpAny (model X.prog X.w) A' (call f [v]) (EP X (p :: q :: pins) σ fun k H2 => T (j + 1) (ks ++ [k]) H2) (fun _ _ => False) s')
    (fin : ∀ (ks : List V) (H' : Hp) (s' : Shared) (kA : Array Value) (e e1 : Nat) (kS : Addr), Inv X pins σ H' s' → FpOk X pins H' kS → FpOk X pins H' s2.heap.objs.size → kS ≠ s2.heap.objs.size → T vs.length ks H' → s'.heap.get? kS = some (seqObj "list" kA e) → s'.heap.get? s2.heap.objs.size = some (seqObj "list" #[] e1) → Vals ks kA.toList → kA.size = vs.length →
      wpAny (model X.prog X.w) A' (ksk_end s2.heap.objs.size b vs.toArray e1 (.ref kS) kA) R E s') :
    wpAny (model X.prog X.w) A' (ksk_tree s2.heap.objs.size f b) R E { s2 with heap := s2.heap.push (seqObj "list" vs.toArray 0) } := by
  have ho : (s2.heap.push (seqObj "list" vs.toArray 0)).get? s2.heap.objs.size = some (seqObj "list" vs.toArray 0) := Heap.get?_push_size _ rfl
  obtain ⟨e1, ho1⟩ : ∃ e1, ((s2.heap.push (seqObj "list" vs.toArray 0)).update s2.heap.objs.size (Obj.mapSeq fun _ => (#[] : Array Value))).get? s2.heap.objs.size = some (seqObj "list" #[] e1) := ⟨_, get?_update_seq ho fun _ => #[]⟩
  have sb := Heap.SameBut.update (s2.heap.push (seqObj "list" vs.toArray 0)) s2.heap.objs.size (Obj.mapSeq fun _ => (#[] : Array Value))
  have sz : (((s2.heap.push (seqObj "list" vs.toArray 0)).update s2.heap.objs.size (Obj.mapSeq fun _ => (#[] : Array Value))).push (seqObj "tuple" vs.toArray 0)).objs.size = s2.heap.objs.size + 1 + 1 := by rw [size_push', Heap.size_update, size_push']
  unfold ksk_tree
  refine wpAny_bind (listItems_at ho rfl ?_)
  refine wpAny_bind (listUpdate_at ho rfl ?_ (by rw [List.size_toArray]; exact hZ) (Nat.zero_le _))
  refine wpAny_bind (seqEpoch_at ho1 rfl ?_)
  refine wpAny_bind (wpAny_newTuple ?_ (by show vs.length ≤ _; exact hZ))
  refine wpAny_bind (wpAny_newList ?_ (Nat.zero_le _))
  refine wpAny_holding ?_
  show wpAny _ _ _ _ _ { s2 with heap := (((s2.heap.push (seqObj "list" vs.toArray 0)).update s2.heap.objs.size (Obj.mapSeq fun _ => (#[] : Array Value))).push (seqObj "tuple" vs.toArray 0)).push (seqObj "list" #[] 0) }
  have hk1 : ((((s2.heap.push (seqObj "list" vs.toArray 0)).update s2.heap.objs.size (Obj.mapSeq fun _ => (#[] : Array Value))).push (seqObj "tuple" vs.toArray 0)).push (seqObj "list" #[] 0)).get? (((s2.heap.push (seqObj "list" vs.toArray 0)).update s2.heap.objs.size (Obj.mapSeq fun _ => (#[] : Array Value))).push (seqObj "tuple" vs.toArray 0)).objs.size = some (seqObj "list" #[] 0) := Heap.get?_push_size _ rfl
  have ha1 : ((((s2.heap.push (seqObj "list" vs.toArray 0)).update s2.heap.objs.size (Obj.mapSeq fun _ => (#[] : Array Value))).push (seqObj "tuple" vs.toArray 0)).push (seqObj "list" #[] 0)).get? s2.heap.objs.size = some (seqObj "list" #[] e1) := Heap.get?_push_of_some _ (Heap.get?_push_of_some _ ho1)
  have kp : ∀ b o, s2.heap.get? b = some o → ((((s2.heap.push (seqObj "list" vs.toArray 0)).update s2.heap.objs.size (Obj.mapSeq fun _ => (#[] : Array Value))).push (seqObj "tuple" vs.toArray 0)).push (seqObj "list" #[] 0)).get? b = some o := fun b o e =>
    Heap.get?_push_of_some _ (Heap.get?_push_of_some _ ((sb.2 b (Nat.ne_of_lt (Heap.lt_size e))).trans (Heap.get?_push_of_some _ e)))
  generalize hk : (((s2.heap.push (seqObj "list" vs.toArray 0)).update s2.heap.objs.size (Obj.mapSeq fun _ => (#[] : Array Value))).push (seqObj "tuple" vs.toArray 0)).objs.size = kS at sz hk1 ⊢
  generalize hh : ((((s2.heap.push (seqObj "list" vs.toArray 0)).update s2.heap.objs.size (Obj.mapSeq fun _ => (#[] : Array Value))).push (seqObj "tuple" vs.toArray 0)).push (seqObj "list" #[] 0)) = g at hk1 ha1 kp ⊢
  have Fa : FpOk X pins H s2.heap.objs.size := I.fpOk (Nat.le_refl _) (I.hok.fresh (Nat.le_refl _))
  have Fk : FpOk X pins H kS := I.fpOk (by omega) (I.hok.fresh (by omega))
  have I1 : Inv X pins σ H { s2 with heap := g, toks := s2.toks } := I.kept (t' := s2.toks) kp
  have I2 := pin_cons I1 ha1 Fa (fun v z => by cases z)
  have ne : kS ≠ s2.heap.objs.size := by omega
  have Fk2 : FpOk X ((s2.heap.objs.size, seqObj "list" #[] e1) :: pins) H kS := ⟨Fk.1, Fk.2.1, Fk.2.2.1, Fk.2.2.2.1, Fk.2.2.2.2.1, fun p hp => by
    rcases List.mem_append.mp hp with z | z
    · exact Fk.2.2.2.2.2 p (List.mem_append_left _ z)
    · rcases List.mem_cons.mp z with e | z
      · subst e; exact Ne.symm ne
      · exact Fk.2.2.2.2.2 p (List.mem_append_right _ z)⟩
  refine key_rest T I2 Fk2 hk1 hZ h0 (fun j v ks H' s' p hv hl t I' => turn j v ks H' s' p _ hv hl t I') fun ks H' s' kA e I' hn t nk' r hs => ?_
  obtain ⟨na, hna⟩ := pin_at I'
  exact fin ks H' s' kA e e1 kS (pin_tail I') (fpOk_at Fk hn) (fpOk_at Fa hna) ne t nk' na r hs
/-- sorted(x, key=f) by its parts -/
theorem sorted_shell {x : Value} {kw : List (Str × Value)} {Q : Value → Shared → Prop} {E : Value → Shared → Prop} {A : Around} (ha1 : argsOk "sorted" ⟨[x], kw⟩) (ha2 : ∀ z, argsOk "list.sort" ⟨[.ref z], kw⟩)
    (body : wpAny (model X.prog X.w) A.in1 (collect x) (fun us s2 => us.length ≤ sizeLine ∧ ∀ E' : Value → Shared → Prop, wpAny (model X.prog X.w) A.in1.in1 (Builtin.«list.sort» ⟨[.ref s2.heap.objs.size], kw⟩) (fun g s' => g = .done (.ret .none) ∧ Q (.ref s2.heap.objs.size) s') E' { s2 with heap := s2.heap.push (seqObj "list" us.toArray 0) }) E s) :
    wpAny (model X.prog X.w) A (call (.builtin "sorted") [x] kw) Q E s := by
  refine call_function_entry_kw kind_sorted plain_sorted entry_sorted ha1 ?_
  unfold Builtin.«sorted»
  refine wpAny_bind (m := checkCount "sorted" 1 1 _) (wpAny_pure ?_)
  refine wpAny_bind (wpAny_mono body (fun us s2 hb => ?_) fun _ _ e => e)
  obtain ⟨hL, hb⟩ := hb
  refine wpAny_bind (wpAny_newList ?_ hL)
  have hob : (s2.heap.push (seqObj "list" us.toArray 0)).get? s2.heap.objs.size = some (seqObj "list" us.toArray 0) := Heap.get?_push_size _ rfl
  refine wpAny_bind (wpAny_holding (wpAny_call_entry_kw slot_list_sort ⟨_, hob, rfl⟩ entry_list_sort ?_ (ha2 _)))
  refine wpAny_mono (hb _) (fun g s' hg => ?_) fun _ _ e => e
  obtain ⟨rfl, hq⟩ := hg
  exact ⟨_, rfl, wpAny_pure ⟨_, rfl, hq⟩⟩
end
end
end Jw

/-! sorted(.., key=lambda), min(.., key=lambda): the plain part. -/
namespace Jw
open PySem PySem.Spec PyProof.Rows L2
noncomputable section
/-! ### expressions without effects -/
def Kp (m : M) (r : RE W) : Prop := ∀ w m', r = .ok w m' → m' = m
theorem unM_ok {r : RE W} {m : M} {w : W} (k : Kp m r) (h : unM r = .ok w) : r = .ok w m := by
  cases r with
  | ok w' m' =>
    have e : (Except.ok w' : Except Er W) = .ok w := h
    cases e
    rw [k _ _ rfl]
  | exc x m' => cases h
  | er e => cases h
  | draw n k => cases h
theorem kp_ok {m : M} {w : W} : Kp m (.ok w m) := fun _ _ e => by cases e; rfl
theorem kp_er {m : M} {e : Er} : Kp m (.er e) := fun _ _ z => by cases z
theorem kp_lift {α : Type} {m : M} {x : Except Er α} {f : α → RE W} (h : ∀ a, Kp m (f a)) : Kp m (lift x f) := by
  cases x with
  | ok a => exact h a
  | error e => exact kp_er
theorem kp_liftO {α : Type} {m : M} {c : Nat} {x : Option α} {f : α → RE W} (h : ∀ a, Kp m (f a)) : Kp m (liftO c x f) := by
  cases x with
  | some a => exact h a
  | none => exact kp_er
theorem kp_ifB {m : M} {b : Bool} {x y : RE W} (h1 : Kp m x) (h2 : Kp m y) : Kp m (ifB b x y) := by
  cases b
  · exact h2
  · exact h1
theorem kp_bin {Γ : Pg} {o : Bo} {a b : W} {m : M} (ha : numB a = true) (hb : numB b = true) : Kp m (binW Γ o a b m) := by
  cases a <;> first
    | (cases ha; done)
    | (cases b <;> first
      | (cases hb; done)
      | (cases o <;> first
        | exact kp_lift fun _ => kp_ok
        | exact kp_ifB kp_ok kp_er
        | exact kp_ifB kp_ok (kp_ifB kp_er kp_er)
        | exact kp_ifB kp_er kp_ok
        | exact kp_er
        | exact kp_ifB kp_er kp_er
        | (rename_i i j; cases i <;> cases j <;> first | exact kp_ok | exact kp_er | exact kp_ifB kp_ok kp_er)
        | (rename_i i j; cases j <;> first | exact kp_ok | exact kp_er | exact kp_ifB kp_ok kp_er)
        | (rename_i i j; cases i <;> first | exact kp_ok | exact kp_er | exact kp_ifB kp_ok kp_er)
        | (rename_i i j k; cases i <;> first | exact kp_ok | exact kp_er | exact kp_ifB kp_ok kp_er)
        | (rename_i i j k; cases k <;> first | exact kp_ok | exact kp_er | exact kp_ifB kp_ok kp_er)))
theorem kp_ixL {xs : List W} {b : W} {m : M} : Kp m (ixL xs b m) := by
  cases b <;> first
    | exact kp_liftO fun _ => kp_liftO fun _ => kp_ok
    | exact kp_er
theorem kp_ix {Γ : Pg} {a b : W} {m : M} : Kp m (ixW Γ a b m) := by
  unfold ixW
  split
  · exact kp_ixL
  · split
    · exact kp_ixL
    · exact kp_ifB (kp_lift fun _ => kp_liftO fun _ => kp_ok) kp_er
    · exact kp_ifB (kp_lift fun _ => kp_liftO fun _ => kp_ok) kp_er
    · exact kp_er
  · exact kp_er
theorem kp_newT {ws : List W} {m : M} : Kp m (newT ws m) := kp_ifB kp_ok kp_er
theorem kp_vr {i : Nat} {σ : Sl} {m : M} : Kp m (evVr i σ m) := kp_liftO fun _ => kp_liftO fun _ => kp_ok
theorem kp_fld {a : W} {f : Nat} {m : M} : Kp m (getF a f m) := by
  unfold getF getI
  split
  · split
    · exact kp_liftO fun _ => kp_ok
    · exact kp_er
  · exact kp_er
section
variable {Γ : Pg}
def Pv (n : Nat) : Prop := ∀ (x : Ex) (σ : Sl) (m : M) (w : W), (ev Γ n).p x σ m = .ok w → ∀ d, (ev Γ n).e d x σ m = .ok w m
theorem evP_ok {n : Nat} (h : Pv (Γ := Γ) n) {σ : Sl} {m : M} : ∀ {l : List Ex} {ws : List W}, evP (ev Γ n).p σ m l = .ok ws → ∀ d, evL (ev Γ n) d σ l m = .ok ws m
  | [], ws, e, d => by cases e; rfl
  | x :: l, ws, e, d => by
    have e : exB ((ev Γ n).p x σ m) (fun w => exB (evP (ev Γ n).p σ m l) fun ws => .ok (w :: ws)) = .ok ws := e
    obtain ⟨w, e1, e⟩ := exB_ok e
    obtain ⟨us, e2, e⟩ := exB_ok e
    cases e
    show REbind ((ev Γ n).e d x σ m) _ = _
    rw [h x σ m w e1 d]
    show REbind (evL (ev Γ n) d σ l m) _ = _
    rw [evP_ok h e2 d]; rfl
theorem recB {α : Type} {b : Bool} {c : Nat} {x : Except Er α} {a : α} (h : (Bool.rec (.error (.stuck c)) x b : Except Er α) = .ok a) : b = true ∧ x = .ok a := by
  cases b
  · cases h
  · exact ⟨rfl, h⟩
theorem pv_ok : ∀ n, Pv (Γ := Γ) n
  | 0 => fun x σ m w h => by cases h
  | n + 1 => fun x σ m w h d => by
    have ih := pv_ok n
    have h : stepP Γ (ev Γ n).p x σ m = .ok w := h
    show stepE Γ (ev Γ n) d x σ m = .ok w m
    unfold stepP at h
    split at h
    · exact unM_ok kp_vr h
    · cases h; rfl
    · rename_i o a b _
      obtain ⟨x, e1, h⟩ := exB_ok h
      obtain ⟨y, e2, h⟩ := exB_ok h
      obtain ⟨hb, h⟩ := recB h
      rw [Bool.and_eq_true] at hb
      show REbind ((ev Γ n).e d a σ m) _ = _
      rw [ih _ _ _ _ e1 d]
      show REbind ((ev Γ n).e d b σ m) _ = _
      rw [ih _ _ _ _ e2 d]
      exact unM_ok (kp_bin hb.1 hb.2) h
    · rename_i a _
      obtain ⟨x, e1, h⟩ := exB_ok h
      obtain ⟨hb, h⟩ := recB h
      show REbind ((ev Γ n).e d a σ m) _ = _
      rw [ih _ _ _ _ e1 d]
      exact unM_ok (r := binW Γ .sub (.int 0) x m) (kp_bin rfl hb) h
    · rename_i l _
      obtain ⟨ws, e1, h⟩ := exB_ok h
      show REbind (evL (ev Γ n) d σ l m) _ = _
      rw [evP_ok ih e1 d]
      exact unM_ok kp_newT h
    · rename_i a b _
      obtain ⟨x, e1, h⟩ := exB_ok h
      obtain ⟨y, e2, h⟩ := exB_ok h
      show REbind ((ev Γ n).e d a σ m) _ = _
      rw [ih _ _ _ _ e1 d]
      show REbind ((ev Γ n).e d b σ m) _ = _
      rw [ih _ _ _ _ e2 d]
      exact unM_ok (kp_ix (Γ := Γ)) h
    · rename_i a f _
      obtain ⟨x, e1, h⟩ := exB_ok h
      show REbind ((ev Γ n).e d a σ m) _ = _
      rw [ih _ _ _ _ e1 d]
      exact unM_ok kp_fld h
    · cases h
end
/-! ### pairs of a key and an item, sorted -/
section
open PySem.W
variable {C : Cn} {m : M} {lo hi : Int}
abbrev leP (x : Int) (m : M) : W × W → W × W → Bool := dataLe false fun p : W × W => dat x m 12 p.1
theorem insK_ok (h1 : lo ≤ C.x) (h2 : C.x ≤ hi) {x : W × W} : ∀ {l r : List (W × W)}, dtN m 12 x.1 = true → (∀ y ∈ l, dtN m 12 y.1 = true) → (∀ y ∈ l, alike (dat C.x m 12 x.1) (dat C.x m 12 y.1) = true) → insK lo hi m x l = .ok r → r = ins (leP C.x m) x l
  | [], r, _, _, _, h => by cases h; rfl
  | y :: ys, r, hx, hl, ha, h => by
    have h' : exIf (ltN lo hi m 12 x.1 y.1) (.ok (x :: y :: ys)) (exB (insK lo hi m x ys) fun zs => .ok (y :: zs)) = .ok r := h
    have al := ha y (List.mem_cons_self ..)
    have hy := hl y (List.mem_cons_self ..)
    rcases exIf_ok h' with ⟨e, q⟩ | ⟨e, q⟩
    · cases q
      have e2 := ltN_dat h1 h2 12 12 x.1 y.1 true (Nat.le_refl _) hx hy al e
      unfold ins
      rw [if_neg]
      show ¬ (!dataLt (dat C.x m 12 x.1) (dat C.x m 12 y.1)) = true
      rw [e2]; decide
    · have e2 := ltN_dat h1 h2 12 12 x.1 y.1 false (Nat.le_refl _) hx hy al e
      obtain ⟨zs, q1, q2⟩ := exB_ok q
      cases q2
      have := insK_ok h1 h2 hx (fun z hz => hl z (List.mem_cons_of_mem _ hz)) (fun z hz => ha z (List.mem_cons_of_mem _ hz)) q1
      unfold ins
      rw [if_pos, this]
      show (!dataLt (dat C.x m 12 x.1) (dat C.x m 12 y.1)) = true
      rw [e2]; rfl
theorem sortP_ok (h1 : lo ≤ C.x) (h2 : C.x ≤ hi) : ∀ {l acc r : List (W × W)}, (∀ x ∈ l, dtN m 12 x.1 = true) → (∀ x ∈ acc, dtN m 12 x.1 = true) → (∀ x ∈ l, ∀ y ∈ acc, alike (dat C.x m 12 x.1) (dat C.x m 12 y.1) = true) → (∀ x ∈ l, ∀ y ∈ l, alike (dat C.x m 12 x.1) (dat C.x m 12 y.1) = true) →
    sortP lo hi m l acc = .ok r → r = insAll (leP C.x m) acc l
  | [], acc, r, _, _, _, _, h => by cases h; rfl
  | x :: xs, acc, r, hl, hacc, ha, hb, h => by
    have h' : exB (insK lo hi m x acc) (fun a => sortP lo hi m xs a) = .ok r := h
    obtain ⟨a, q1, q2⟩ := exB_ok h'
    have hx := hl x (List.mem_cons_self ..)
    have e := insK_ok h1 h2 hx hacc (ha x (List.mem_cons_self ..)) q1
    have mem : ∀ z ∈ a, z = x ∨ z ∈ acc := fun z hz => ins_mem (e ▸ hz)
    have := sortP_ok h1 h2 (fun z hz => hl z (List.mem_cons_of_mem _ hz)) (fun z hz => by
        rcases mem z hz with e | e
        · rw [e]; exact hx
        · exact hacc z e) (fun y hy z hz => by
        rcases mem z hz with e | e
        · rw [e]; exact hb y (List.mem_cons_of_mem _ hy) x (List.mem_cons_self ..)
        · exact ha y (List.mem_cons_of_mem _ hy) z e) (fun y hy z hz => hb y (List.mem_cons_of_mem _ hy) z (List.mem_cons_of_mem _ hz)) q2
    rw [this, e]; rfl
theorem sortP_sort (h1 : lo ≤ C.x) (h2 : C.x ≤ hi) {l r : List (W × W)} (hl : ∀ x ∈ l, dtN m 12 x.1 = true) (hb : ∀ x ∈ l, ∀ y ∈ l, alike (dat C.x m 12 x.1) (dat C.x m 12 y.1) = true) (h : sortP lo hi m l [] = .ok r) : r = l.mergeSort (leP C.x m) := by
  rw [sortP_ok h1 h2 hl (fun _ h => by cases h) (fun _ _ y hy => by cases hy) hb h]
  exact insAll_sort (sortLe_total _ _ _) l
end
/-! ### the keys -/
section
variable {Γ : Pg}
theorem keysP_len {ih : Ev} {p : Nat} {b : Ex} {σ : Sl} {m : M} : ∀ {xs ks : List W}, keysP ih p b σ m xs = .ok ks → ks.length = xs.length ∧ ∀ (j : Nat) (x : W), xs[j]? = some x → ∃ k, ks[j]? = some k ∧ ih.p b (setSl σ p (some x)) m = .ok k
  | [], ks, h => by cases h; exact ⟨rfl, fun j x e => by simp at e⟩
  | y :: ys, ks, h => by
    have h : exB (ih.p b (setSl σ p (some y)) m) (fun k => exB (keysP ih p b σ m ys) fun ks => .ok (k :: ks)) = .ok ks := h
    obtain ⟨k, e1, h⟩ := exB_ok h
    obtain ⟨us, e2, h⟩ := exB_ok h
    cases h
    obtain ⟨l, g⟩ := keysP_len e2
    refine ⟨by rw [List.length_cons, List.length_cons, l], fun j x e => ?_⟩
    cases j with
    | zero =>
      cases (show some y = some x from e)
      exact ⟨k, rfl, e1⟩
    | succ j => exact g j x e
end
end
end Jw

/-! sorted(.., key=lambda): it is what the evaluator says. -/
namespace Jw
open PySem PySem.Calls PySem.Spec PyProof.Rows L2 LamX
noncomputable section
/-- what is known of a lambda of one parameter, where it stands -/
structure Lm (X : Cx) (C : Cn) (params : Arguments) (body : Expr) (scope : Scope) (a : Str) (p : Nat) : Prop where
  tb : ∃ c P, TabB X.base X.mg c P ∧ X.env.code = .ref c ∧ (P, X.env.qual ++ "<lambda>") ∈ C.tb ∧ ∀ q ∈ C.tb, q.1 = P → q.2 = X.env.qual ++ "<lambda>"
  L : LamS1 X.env.scope scope a
  nd : X.N.Nodup
  hp : X.N[p]? = some a
  hdef : defaultsOf params X.env = ([], [])
  hbind : ∀ (u : Value) (q : Str) (cl : List (Str × Addr)) (pm cv ctv : Value), bindArgs (PySem.W.kla_fn "<lambda>" q params body scope cl pm cv ctv) ⟨[u], []⟩ = pure [(a, u)]
section
variable {X : Cx} {C : Cn} {Γ : Pg} {ι ι' : Im} {H H' : Hp} {m : M} {Q : VK} {pins : List (Addr × Obj)} {σ : L2.St} {σ' : Sl} {s : Shared}
theorem simH_growN (S : SimH X.K C ι m H) (g : ExtN H H') (gt : Gt H H') (t : Tabs C.tb H') : SimH X.K C ι m H' :=
  have no : ∀ {n : Ad} {o : O} {a : Addr}, m.get n = some o → ι n = some a → o ≠ .scr → H' a = H a := fun {n o a} e1 e2 ho => by
    obtain ⟨a', f1, f2⟩ := S.ob n o e1
    rw [e2] at f1; cases f1
    cases o with
    | lst ws => obtain ⟨vs, h1, _⟩ := f2; rw [h1, g _ _ h1 (fun _ z => by cases z)]
    | dict t kvs =>
      cases t with
      | false => obtain ⟨vs, h1, _⟩ := f2; rw [h1, g _ _ h1 (fun _ z => by cases z)]
      | true => obtain ⟨vs, h1, _⟩ := f2; rw [h1, g _ _ h1 (fun _ z => by cases z)]
    | scr => exact (ho rfl).elim
    | row => obtain ⟨_, _, _, h1, _⟩ := f2; rw [h1, g _ _ h1 (fun _ z => by cases z)]
    | frd t kvs =>
      cases t with
      | false => obtain ⟨_, _, h1, _⟩ := f2; rw [h1, g _ _ h1 (fun _ z => by cases z)]
      | true => obtain ⟨_, _, h1, _⟩ := f2; rw [h1, g _ _ h1 (fun _ z => by cases z)]
    | ins _ _ => obtain ⟨_, _, _, _, h1, _⟩ := f2; rw [h1, g _ _ h1 (fun _ z => by cases z)]
  ⟨fun n o e => by
    obtain ⟨a, e1, e2⟩ := S.ob n o e
    exact ⟨a, e1, e2.mono' ⟨fun p vs h => g _ _ h (fun _ z => by cases z), fun p o u h => g _ _ h (fun _ z => by cases z)⟩ (Le.refl ι) fun ho => no e e1 ho⟩, S.inj, S.lt, fun n a h0 e => by
      obtain ⟨u, hu⟩ := S.tr n a h0 e
      by_cases hb : ∃ ps, u = .tbl ps
      · obtain ⟨ps, rfl⟩ := hb
        obtain ⟨more, z⟩ := gt _ _ hu
        exact ⟨_, z⟩
      · exact ⟨u, g _ _ hu fun ps z => hb ⟨ps, z⟩⟩, S.scr, S.so.elim (fun ⟨o, q⟩ => .inl ⟨o, g _ _ q (fun _ z => by cases z)⟩) .inr, S.root, t⟩
theorem tk_N (g : ExtN H H') : Tk X.K H H' := ⟨fun p vs h => g _ _ h (fun _ z => by cases z), fun p o u h => g _ _ h (fun _ z => by cases z)⟩
/-- one key -/
theorem key_call {A' : Around} {params : Arguments} {body : Expr} {scope : Scope} {lpos : Pos} {a : Str} {p d n : Nat} {b : Ex} {f c' P : Addr} {pm ctv : Value} {w kw : W} {x : V} {u : Value} (lm : Lm X C params body scope a p) (hPt : (P, X.env.qual ++ "<lambda>") ∈ C.tb) (I : Inv X pins σ H s)
    (hf : s.heap.get? f = some (PySem.W.kla_obj "<lambda>" (X.env.qual ++ "<lambda>") params body scope (cloFrom X.env.cells scope.names []) pm c' ctv)) (hA : A'.frames = some X.stack) (hr : Room (d + 2 + 1) A') (s0 : SimS X.K C ι H σ' σ) (S : SimH X.K C ι m H) (ca : CodeAt H P lpos c')
    (hb : ∀ (A : Around) (outer : List Env) (s : Shared) (H : Hp), Room (d + 2) (A.deeper (lamEnv X scope s.heap.objs.size f c')) → PE (lamCx X A outer s H (fun _ _ _ => False) scope f c').nox body (tG X.K C fun σ m => (ev Γ n).e d b σ m))
    (hk : (ev Γ n).p b (setSl σ' p (some w)) m = .ok kw) (rw_ : RepV C (TT' X.K H) ι w x) (rv : RelV x u) {E : Value → Shared → Prop} :
    wpAny (model X.prog X.w) A' (call (.ref f) [u]) (EP X pins σ fun k H2 => ∃ ι2, Le ι ι2 ∧ Tk X.K H H2 ∧ SimH X.K C ι2 m H2 ∧ RepV C (TT' X.K H2) ι2 kw k ∧ CodeAt H2 P lpos c') E s := by
  have hlt : p < σ.length := by rw [I.len]; exact (List.getElem?_eq_some_iff.mp lm.hp).1
  refine wpAny_mono (lam1_call (tb := tG X.K C fun σ m => (ev Γ n).e d b σ m) (Q := fun k H2 => ∃ ι2, Le ι ι2 ∧ Tk X.K H H2 ∧ SimH X.K C ι2 m H2 ∧ RepV C (TT' X.K H2) ι2 kw k) I lm.L lm.nd lm.hp rv hA hr hf (ca.code S.tabs hPt) (lm.hbind u) (fun A outer s H hr => hb A outer s H hr) ⟨ι, _, m, s0.set hlt rw_, S, ?_⟩) (fun k s' hq => ?_) fun _ _ e => e
  · show PostE _ ((ev Γ n).e d b (setSl σ' p (some w)) m)
    rw [pv_ok n b _ m kw hk d]
    exact fun ι2 H2 k S2 l t r => ⟨ι2, l, t, S2, r⟩
  · obtain ⟨v, H2, I2, r, ⟨ι2, l, t, S2, rk⟩, gt⟩ := hq
    exact ⟨v, H2, I2, r, ι2, l, t, S2, rk, ca.grow S.tabs hPt gt⟩
theorem each_zip : ∀ {ks : List W} {l : List (W × V)} {us : List Value}, ks.length = l.length → PySem.W.EachIs (fun u (p : W × V) => RelV p.2 u) us l → PySem.W.EachIs (fun u (p : W × (W × V)) => RelV p.2.2 u) us (ks.zip l)
  | [], l, us, h, e => by
    cases l with
    | nil => cases e; exact .nil
    | cons _ _ => simp at h
  | k :: ks, l, us, h, e => by
    cases e with
    | nil => simp at h
    | cons r t => rw [List.zip_cons_cons]; exact .cons r (each_zip (by simpa using h) t)
theorem each_snd : ∀ {l : List (W × (W × V))} {us : List Value}, PySem.W.EachIs (fun u (p : W × (W × V)) => RelV p.2.2 u) us l → PySem.W.EachIs (fun u (p : W × V) => RelV p.2 u) us (l.map (·.2))
  | _, _, .nil => .nil
  | _, _, .cons h t => .cons h (each_snd t)
theorem zip_mid : ∀ {ks xs : List W} {vs : List V}, xs.length = vs.length → (ks.zip (xs.zip vs)).map (fun p => (p.1, p.2.1)) = ks.zip xs
  | [], _, _, _ => by simp
  | _ :: _, [], _, _ => by simp
  | k :: ks, x :: xs, [], h => by simp at h
  | k :: ks, x :: xs, v :: vs, h => by
    rw [List.zip_cons_cons, List.zip_cons_cons, List.map_cons, List.zip_cons_cons, zip_mid (by simpa using h)]
/-- the sort by keys, run -/
theorem run_sortK {params : Arguments} {body : Expr} {scope : Scope} {lpos : Pos} {a : Str} {p d n : Nat} {b : Ex} {f c' P : Addr} {pm ctv : Value} {xs : List W} {xvs : List V} {x : Value} (R : Rng Γ C) (hu : Room (d + 5) X.A) (lm : Lm X C params body scope a p) (hPt : (P, X.env.qual ++ "<lambda>") ∈ C.tb)
    (I : Inv X pins σ H s) (hf : s.heap.get? f = some (PySem.W.kla_obj "<lambda>" (X.env.qual ++ "<lambda>") params body scope (cloFrom X.env.cells scope.names []) pm c' ctv)) (hfH : H f = none) (hfF : FpOk X pins H f)
    (s0 : SimS X.K C ι H σ' σ) (S : SimH X.K C ι m H) (ca : CodeAt H P lpos c') (rs : RepVs C (TT' X.K H) ι xs xvs)
    (hb : ∀ (A : Around) (outer : List Env) (s : Shared) (H : Hp), Room (d + 2) (A.deeper (lamEnv X scope s.heap.objs.size f c')) → PE (lamCx X A outer s H (fun _ _ _ => False) scope f c').nox body (tG X.K C fun σ m => (ev Γ n).e d b σ m))
    (hcol : ∀ (Q' : List Value → Shared → Prop) (E : Value → Shared → Prop), (∀ us s3, Inv X ((f, PySem.W.kla_obj "<lambda>" (X.env.qual ++ "<lambda>") params body scope (cloFrom X.env.cells scope.names []) pm c' ctv) :: pins) σ H s3 → Vals xvs us → Q' us s3) → wpAny (model X.prog X.w) X.A.in1 (collect x) Q' E s)
    (hp : PostE (QV X.K C ι H Q) (sortKW Γ (ev Γ n) (d + 3) p b σ' xs m)) (ha1 : argsOk "sorted" ⟨[x], [(Str.ofString "key", .ref f)]⟩) {E : Value → Shared → Prop} :
    wpAny (model X.prog X.w) X.A (call (.builtin "sorted") [x] [(Str.ofString "key", .ref f)]) (EP X pins σ Q) E s := by
  obtain ⟨hb0, hp⟩ := (show (Nat.ble 3 (d + 3) && Nat.ble xs.length 100000) = true ∧ PostE (QV X.K C ι H Q) (lift (keysP (ev Γ n) p b σ' m xs) fun ks => ifB (cmpOk m ks && srtOk m ks) (lift (sortP Γ.lo Γ.hi m (ks.zip xs) []) fun ys => newL (ys.map (·.2)) m) (.er (.stuck 2))) from (PostE.ifB hp).elim id fun z => z.2.elim)
  rw [Bool.and_eq_true] at hb0
  obtain ⟨ks, hks, hp⟩ := PostE.lift hp
  obtain ⟨hck, hp⟩ := PostE.ifF hp
  rw [Bool.and_eq_true] at hck
  obtain ⟨ys, hys, hp⟩ := PostE.lift hp
  obtain ⟨kl, kat⟩ := keysP_len hks
  obtain ⟨kd, kal, knn⟩ := cmpOk_ok (C := C) hck.1
  have xl : xs.length = xvs.length := rs.length
  have hZ0 : xs.length ≤ sizeLine := size_of hb0.2
  refine sorted_shell ha1 (fun _ => ksk_l1 _ _) (hcol _ _ fun us s3 I3 rv => ?_)
  have ul : xvs.length = us.length := rv.length
  refine ⟨by omega, fun E' => ?_⟩
  rw [ksk_t1]
  refine key_tree (vs := us) (b := false) (fun j ks' H' => ∃ ι', SimS X.K C ι' H' σ' σ ∧ SimH X.K C ι' m H' ∧ Le ι ι' ∧ Tk X.K H H' ∧ CodeAt H' P lpos c' ∧ RepVs C (TT' X.K H') ι' (ks.take j) ks') I3 (by omega) ⟨ι, s0, S, Le.refl ι, Tk.refl _ H, ca, by rw [List.take_zero]; exact .nil⟩
    (fun j v ks' H' s' q1 q2 hv hl ⟨ι', s1, S1, l1, t1, c1, r1⟩ I' => ?_) fun ks' H' s' kA e e1 kS I' Fk Fa ne ⟨ι', s1, S1, l1, t1, c1, r1⟩ nk na r hs => ?_
  · have hj : j < us.length := (List.getElem?_eq_some_iff.mp hv).1
    obtain ⟨w, hw⟩ : ∃ w, xs[j]? = some w := ⟨_, List.getElem?_eq_getElem (by omega)⟩
    obtain ⟨xv, hxv, rw1⟩ := rs.get hw
    obtain ⟨u2, hu2, rv1⟩ := rv.get hxv
    rw [hv] at hu2
    cases hu2
    obtain ⟨kw, hkw, hev⟩ := kat j w hw
    have hf' : s'.heap.get? f = some (PySem.W.kla_obj "<lambda>" (X.env.qual ++ "<lambda>") params body scope (cloFrom X.env.cells scope.names []) pm c' ctv) := (I'.pin (f, _) (List.mem_append_right _ (List.mem_cons_of_mem _ (List.mem_cons_of_mem _ (List.mem_cons_self ..))))).1
    refine wpAny_mono (key_call (A' := X.A.in1.in1) (d := d) lm hPt I' hf' I'.ok.frames (Room.in1 (Room.in1 hu)) s1 S1 c1 hb hev (rw1.mono t1 l1) rv1) (fun k s2 hq => ?_) fun _ _ z => z
    obtain ⟨v2, H2, I2, r2, ι2, l2, t2, S2, rk, ca2⟩ := hq
    refine ⟨v2, H2, I2, r2, ι2, s1.mono t2 l2, S2, l1.trans l2, t1.trans t2, ca2, ?_⟩
    have et : ks.take (j + 1) = ks.take j ++ [kw] := by rw [List.take_add_one, hkw]; rfl
    rw [et]
    exact (r1.mono t2 l2).append (.cons rk .nil)
  · rw [← ul, ← xl, ← kl, List.take_length] at r1
    have I1 := pin_tail I'
    obtain ⟨dl, pl, zl⟩ := dt_all S1 kd r1
    obtain ⟨as0, rds⟩ := Dp.readsAll I' _ _ _ dl r
    have hk' : PySem.W.EachIs (fun v k => ∃ as, Reads s'.heap v k as) kA.toList (ks.map (dat C.x m 12)) := PySem.W.readsAll_each (fun d => d) (by rw [List.map_id']; exact rds)
    have al2 : PySem.W.AllAlike (ks.map (dat C.x m 12)) := fun d1 h1 d2 h2 => by
      obtain ⟨y, hy, rfl⟩ := List.mem_map.mp h1
      obtain ⟨y', hy', rfl⟩ := List.mem_map.mp h2
      exact kal y hy y' hy'
    have so : PySem.W.Sortable (ks.map (dat C.x m 12)) := srt_sortable hck.2 kd knn kal
    have hun : ∀ d1, d1 ∈ ks.map (dat C.x m 12) → X.A.in1.in1.units + d1.depth < cLine := fun d1 h1 => by
      obtain ⟨y, hy, rfl⟩ := List.mem_map.mp h1
      obtain ⟨yv, _, ry⟩ : ∃ yv, True ∧ RepV C (TT' X.K H') ι' y yv := by
        obtain ⟨i, hi⟩ := List.getElem?_of_mem hy
        obtain ⟨yv, _, q⟩ := r1.get hi
        exact ⟨yv, trivial, q⟩
      have : (dat C.x m 12 y).depth ≤ 12 := (dt_dp S1 12 _ _ (allL_ok kd y hy) ry).2.2
      have := hu.un
      show X.A.units + 1 + 1 + _ < cLine
      omega
    have hh1 : (PySem.W.hideAll s'.heap [kS]).get? kS = none := PySem.W.hideAll_none _ (List.mem_singleton.mpr rfl)
    have kp : PySem.W.KeepsBut s3.heap.objs.size (PySem.W.hideAll s'.heap [kS]) s'.heap := fun b o _ e => PySem.W.of_hideAll _ e
    refine PySem.W.keyH_end (κ := PySem.W.dataKind s'.heap (ks.map (dat C.x m 12))) (h₁ := PySem.W.hideAll s'.heap [kS]) kp hh1 nk na ne (PySem.W.SortsAt.data (s := s') hk' al2 so hun) hs (by omega) fun h' tk c kp' hD => ⟨rfl, ?_⟩
    have ko : PySem.W.KeyedOut false (ks.map (dat C.x m 12)) us (PySem.W.sortVals (PySem.W.dataKind s'.heap (ks.map (dat C.x m 12))) false kA.toList us) := ⟨s'.heap, kA.toList, al2, rfl, hk'⟩
    have zl2 : (xs.zip xvs).length = ks.length := by rw [List.length_zip]; omega
    have fst : (ks.zip (xs.zip xvs)).map (·.1) = ks := List.map_fst_zip (by omega)
    have each := each_zip (ks := ks) (by omega) (vals_each xl rv)
    have menc : (ks.zip (xs.zip xvs)).map (fun q => dat C.x m 12 q.1) = ks.map (dat C.x m 12) := by rw [← congrArg (List.map (dat C.x m 12)) fst, List.map_map]; rfl
    have eo := PySem.W.keyedOut_each (R := fun u (q : W × (W × V)) => RelV q.2.2 u) (bs := ks.zip (xs.zip xvs)) (fun q => dat C.x m 12 q.1) (by rw [menc]; exact ko) each
    have perm := List.mergeSort_perm (ks.zip (xs.zip xvs)) (PySem.W.dataLe false fun q : W × (W × V) => dat C.x m 12 q.1)
    have vv := each_vals (each_snd eo)
    have rr := reps_of (C := C) (ι := ι') (T := TT' X.K H') (l := ((ks.zip (xs.zip xvs)).mergeSort (PySem.W.dataLe false fun q : W × (W × V) => dat C.x m 12 q.1)).map (·.2)) fun q hq => by
      obtain ⟨q2, h2, rfl⟩ := List.mem_map.mp hq
      have h3 := perm.mem_iff.mp h2
      exact (reps_zip rs q2.2 (List.of_mem_zip h3).2).mono t1 l1
    have ey : (((ks.zip (xs.zip xvs)).mergeSort (PySem.W.dataLe false fun q : W × (W × V) => dat C.x m 12 q.1)).map (·.2)).map (·.1) = ys.map (·.2) := by
      have q := PySem.W.sort_maps (r := PySem.W.dataLe false fun q : W × (W × V) => dat C.x m 12 q.1) (s := leP C.x m) (fun q : W × (W × V) => (q.1, q.2.1)) (l := ks.zip (xs.zip xvs)) (fun _ _ _ _ => rfl)
      rw [zip_mid xl] at q
      have e2 := sortP_sort (C := C) R.lo R.hi (fun z hz => allL_ok kd _ (List.of_mem_zip hz).1) (fun z hz z' hz' => kal _ (List.of_mem_zip hz).1 _ (List.of_mem_zip hz').1) hys
      rw [e2, ← q, List.map_map, List.map_map]
      rfl
    rw [ey] at rr
    have hp' : PostE (QV X.K C ι' H' Q) (newL (ys.map (·.2)) m) := PostE.mono (fun _ _ => QV.base l1 t1) hp
    obtain ⟨z2, pq⟩ := post_newL S1 rr hp'
    have I2 : Inv X ((f, PySem.W.kla_obj "<lambda>" (X.env.qual ++ "<lambda>") params body scope (cloFrom X.env.cells scope.names []) pm c' ctv) :: pins) σ H' { s' with heap := h', toks := tk } := turnedL [kS, s3.heap.objs.size] I' (fun b o hb e => by
      have h1 : b ≠ kS := fun z => hb (by simp [z])
      have h2 : b ≠ s3.heap.objs.size := fun z => hb (by simp [z])
      exact kp' b o h2 (PySem.W.hideAll_get _ e (by simpa using h1))) fun b hb => by
      rcases List.mem_cons.mp hb with e | hb
      · subst e; exact Fk
      · have e : b = s3.heap.objs.size := by simpa using hb
        subst e; exact Fa
    have I4 := I2.take (h' := h') (t' := tk) (o := .lst (((ks.zip (xs.zip xvs)).mergeSort (PySem.W.dataLe false fun q : W × (W × V) => dat C.x m 12 q.1)).map (·.2) |>.map (·.2))) (fun b ob _ e => e) Fa ⟨z2, _, c, vv, hD⟩
    exact ⟨.ref s3.heap.objs.size, _, pin_tail I4, rfl, pq _ Fa.1⟩
end
end
end Jw

/-! sorted(range(..), key=lambda), sorted(xs, key=lambda). -/
namespace Jw
open PySem PySem.Calls PySem.Spec PyProof.Rows L2 LamX
noncomputable section
section
variable {X : Cx} {C : Cn} {Γ : Pg} {a b : Expr} {ga gb : Sl → M → RE W} {pos ppos p q kpos lpos : Pos} {ta tb : TE}
def tRgT1 (ta : TE) : TE := fun σ H Q => ta σ H fun x H1 => ∃ n, x = .int n ∧ ∀ r, H1 r = none → Q (.ref r) (upd H1 r (.rng 0 n))
def tRgT2 (ta tb : TE) : TE := fun σ H Q => ta σ H fun x H1 => tb σ H1 fun y H2 => ∃ i j, x = .int i ∧ y = .int j ∧ ∀ r, H2 r = none → Q (.ref r) (upd H2 r (.rng i j))
/-- a range, tracked -/
theorem pe_rgT1 (hg : Gl X "range") (hm : X.mg "range" = none) (ha : PE X a ta) (na : starEach [a] X.env = (false, eval a X.env) :: starEach [] X.env := by rfl) : PE X (.Call (.Name "range" p) [a] [] pos) (tRgT1 ta) := by
  refine ⟨fun pins s σ H Q I h => ?_⟩
  refine Call_ (ld_blt I hg hm boot_range (callWith_type1 (args_cons (thn (ha.run pins s σ H _ I h) fun v s1 ⟨x, H1, I1, r1, q1⟩ => args_nil ?_) na) na))
  obtain ⟨n, rfl, q1⟩ := q1
  obtain ⟨t, rfl⟩ := r1
  refine call_range_1 ⟨.ref s1.heap.objs.size, upd H1 s1.heap.objs.size (.rng 0 n), I1.laid (t' := _) (fun b o e => Heap.get?_push_of_some _ e) (Nat.le_refl _) ?_, rfl, q1 _ (I1.hok.fresh (Nat.le_refl _))⟩
  exact ⟨_, _, _, Heap.get?_push_size _ rfl⟩
theorem pe_rgT2 (hg : Gl X "range") (hm : X.mg "range" = none) (ha : PE X a ta) (hb : PE X b tb) (na : starEach [a, b] X.env = (false, eval a X.env) :: starEach [b] X.env := by rfl) (nb : starEach [b] X.env = (false, eval b X.env) :: starEach [] X.env := by rfl)
    (hp : (backTo pos (starEach [b] X.env)).any (·.1) = false := by rfl) : PE X (.Call (.Name "range" p) [a, b] [] pos) (tRgT2 ta tb) := by
  refine ⟨fun pins s σ H Q I h => ?_⟩
  refine Call_ (ld_blt I hg hm boot_range (callWith_type1 (args_cons (thn (ha.run pins s σ H _ I h) fun v s1 ⟨x, H1, I1, r1, q1⟩ => args_cons (thn (hb.run pins s1 σ H1 _ I1 q1) fun v2 s2 ⟨y, H2, I2, r2, q2⟩ => args_nil ?_) nb) na) na hp))
  obtain ⟨i, j, rfl, rfl, q2⟩ := q2
  obtain ⟨t, rfl⟩ := r1
  obtain ⟨u, rfl⟩ := r2
  refine call_range_2 ⟨.ref s2.heap.objs.size, upd H2 s2.heap.objs.size (.rng i j), I2.laid (t' := _) (fun b o e => Heap.get?_push_of_some _ e) (Nat.le_refl _) ?_, rfl, q2 _ (I2.hok.fresh (Nat.le_refl _))⟩
  exact ⟨_, _, _, Heap.get?_push_size _ rfl⟩
/-- the rest of f(x, key=lambda), behind the making of the lambda -/
def KeyIn (X : Cx) (C : Cn) (fn : String) (params : Arguments) (body : Expr) (scope : Scope) (lpos : Pos) (R : V → L2.St → Hp → VK → Prop) : Prop :=
  ∀ (pins : List (Addr × Obj)) (s : Shared) (σ : L2.St) (H : Hp) (Q : VK) (x : V) (u : Value) (f c' P : Addr) (pm ctv : Value) (H1 : Hp), Inv X pins σ H s → RelV x u → (P, X.env.qual ++ "<lambda>") ∈ C.tb →
    s.heap.get? f = some (PySem.W.kla_obj "<lambda>" (X.env.qual ++ "<lambda>") params body scope (cloFrom X.env.cells scope.names []) pm c' ctv) → FpOk X pins H f → ExtN H1 H → Gt H1 H → Tabs C.tb H → CodeAt H P lpos c' → R x σ H1 Q →
    wpAny (model X.prog X.w) X.A (call (.builtin fn) [u] [(Str.ofString "key", .ref f)]) (EP X pins σ Q) X.xe s
def tKeyIn (C : Cn) (ta : TE) (R : V → L2.St → Hp → VK → Prop) : TE := fun σ H Q => ta σ H fun x H1 => Tabs C.tb H1 ∧ R x σ H1 Q
theorem pe_key {x : Str} {fn : String} {params : Arguments} {body : Expr} {scope : Scope} {pa : Str} {i : Nat} {R : V → L2.St → Hp → VK → Prop} (hg : Gl X x) (hm : X.mg x = none) (hv : bootBuiltins x = some (.builtin fn)) (lm : Lm X C params body scope pa i) (ha : PE X a ta) (hK : KeyIn X C fn params body scope lpos R)
    (na : starEach [a] X.env = (false, eval a X.env) :: starEach [] X.env) (hn : x ≠ "__name__" := by decide) (hdb : (x == ("__debug__" : Str)) = false := by decide) :
    PE X (.Call (.Name x p) [a] [⟨some "key", .Lambda params body scope lpos, kpos⟩] pos) (tKeyIn C ta R) := by
  obtain ⟨c, P, TB, hcode, hPt, huq⟩ := lm.tb
  refine ⟨fun pins s σ H Q I h => ?_⟩
  refine wpAny_Call_Name_kw (ld_blt I hg hm hv ?_ hn hdb)
  have e1 : backTo pos (starEach [a] X.env) = (false, eval a X.env) :: backTo pos (starEach [] X.env) := by rw [na]; rfl
  refine callWith_kw (thn ((pa_cons ha pa_nil na).run pos pins s σ H (fun vs H1 => match vs with | [x] => Tabs C.tb H1 ∧ R x σ H1 Q | _ => False) I h) fun us s1 ⟨vs, H1, I1, r1, q1⟩ => ?_) e1 (by rw [e1]; rfl) rfl rfl
  dsimp only at q1
  split at q1
  · rename_i y
    obtain ⟨T1, q⟩ := q1
    obtain ⟨u, rfl, ru⟩ := Vals.one r1
    show wpAny _ _ (evalAll ((do let v ← eval (.Lambda params body scope lpos) X.env; standAt pos; pure v) :: [])) _ _ s1
    refine wpAny_evalAll_cons (wpAny_bind (lam_mk I1 TB hcode hPt huq T1 lm.hdef (lm.L.has I1.ok) fun f c' pm ctv H2 s2 I2 eN gt T2 ca sz hf hfn => wpAny_bind (wpAny_standAt (wpAny_pure ?_))))
    refine wpAny_evalAll_nil ?_
    exact hK pins s2 σ H2 Q y u f c' P pm ctv H1 I2 ru hPt hf (I1.fpOk sz hfn) eN gt T2 ca q
  · exact q1.elim
/-- what is sorted: a list or a range -/
def Src (H : Hp) (r : Addr) (xvs : List V) : Prop := H r = some (.lst xvs) ∨ ∃ i j : Int, H r = some (.rng i j) ∧ xvs = rgV i j ∧ -(2 ^ 62) ≤ i ∧ i < 2 ^ 62 ∧ -(2 ^ 62) ≤ j ∧ j < 2 ^ 62 ∧ (j - i).toNat ≤ 2 ^ 24
def rKey (X : Cx) (C : Cn) (g : List W → Sl → M → RE W) : V → L2.St → Hp → VK → Prop := fun x σ H Q => ∃ (ι : Im) (σ' : Sl) (m : M) (xs : List W) (xvs : List V) (r : Addr), x = .ref r ∧ Src H r xvs ∧ SimS X.K C ι H σ' σ ∧ SimH X.K C ι m H ∧ RepVs C (TT' X.K H) ι xs xvs ∧ PostE (QV X.K C ι H Q) (g xs σ' m)
theorem Src.ext {H H' : Hp} {r : Addr} {xvs : List V} (h : Src H r xvs) (g : ExtN H H') : Src H' r xvs := by
  rcases h with h | ⟨i, j, h, q⟩
  · exact .inl (g _ _ h (fun _ z => by cases z))
  · exact .inr ⟨i, j, g _ _ h (fun _ z => by cases z), q⟩
/-- its items -/
theorem src_collect {pins : List (Addr × Obj)} {σ : L2.St} {H : Hp} {s : Shared} {r : Addr} {xvs : List V} (hc : X.calm = true) (I : Inv X pins σ H s) (h : Src H r xvs) (Q' : List Value → Shared → Prop) (E : Value → Shared → Prop)
    (q : ∀ us s3, Inv X pins σ H s3 → Vals xvs us → Q' us s3) : wpAny (model X.prog X.w) X.A.in1 (collect (.ref r)) Q' E s := by
  rcases h with h | ⟨i, j, h, rfl, b1, b2, b3, b4, b5⟩
  · obtain ⟨its, rv, pl, hz⟩ := I.list (show SqL X.K H r xvs from .inl (.inl h))
    refine collect_list pl.isList (q its _ (I.kept (t' := s.toks) fun b o e => ?_) rv) (by rw [← rv.length]; exact hz)
    rw [Heap.get?_update_ne _ _ _ _ (Nat.ne_of_lt (Heap.lt_size e))]
    exact Heap.get?_push_of_some _ e
  · obtain ⟨t, u, v, hr⟩ := (show ∃ t u v, s.heap.get? r = some { cls := .type "range", data := .fields #[.int i t, .int j u, .int 1 v] } from I.hok r _ h)
    refine collect_range (n := (j - i).toNat) (I.ok.hd hc) hr (small_one b1 b2 b3 b4) (rangeSize_nat i j) b5 fun h' tk acc hk hi => ?_
    exact q _ _ (I.kept (t' := tk) hk) (vals_rg hi)
theorem key_sorted {params : Arguments} {body : Expr} {scope : Scope} {pa : Str} {i d n : Nat} {b : Ex} (R : Rng Γ C) (hc : X.calm = true) (hr : Room (d + 2) X.A) (lm : Lm X C params body scope pa i)
    (hb : ∀ (d' : Nat), d = d' + 3 → ∀ (f c' : Addr) (A : Around) (outer : List Env) (s2 s : Shared) (H : Hp), Room (d' + 2) (A.deeper (lamEnv X scope s2.heap.objs.size f c')) → PE (lamCx X A outer s H (fun _ _ _ => False) scope f c').nox body (tG X.K C fun σ m => (ev Γ n).e d' b σ m)) :
    KeyIn X C "sorted" params body scope lpos (rKey X C fun xs σ' m => sortKW Γ (ev Γ n) d i b σ' xs m) := by
  intro pins s σ H Q x u f c' P pm ctv H1 I rx hPt hf hfF eN gt T ca ⟨ι, σ', m, xs, xvs, r, ex, src, s0, S, rs, hp⟩
  subst ex
  obtain rfl : u = Value.ref r := rx
  have hd : ∃ d', d = d' + 3 := by
    have h1 := (PostE.ifB hp).elim (fun z => z.1) fun z => z.2.elim
    rw [Bool.and_eq_true] at h1
    have := Nat.le_of_ble_eq_true h1.1
    exact ⟨d - 3, by omega⟩
  obtain ⟨d', rfl⟩ := hd
  have tk : Tk X.K H1 H := tk_N eN
  have S2 := simH_growN S eN gt T
  have src2 := src.ext eN
  refine run_sortK (d := d') R hr lm hPt I hf hfF.1 hfF (s0.mono tk (Le.refl ι)) S2 ca (rs.mono tk (Le.refl ι)) (fun A outer s3 H3 hr3 => hb d' rfl f c' A outer s3 s3 H3 hr3) (fun Q' E q => ?_) (PostE.mono (fun _ _ => QV.base (Le.refl ι) tk) hp) (ksk_s1 _ _)
  exact src_collect hc (pin_cons I hf hfF (fun v z => by cases z)) src2 Q' E q
/-- sorted(xs, key=lambda) -/
theorem snd_sortK {params : Arguments} {body : Expr} {scope : Scope} {pa : Str} {i d n : Nat} {e : Ex} (R : Rng Γ C) (hc : X.calm = true) (hr : Room (d + 2) X.A) (hg : Gl X "sorted") (hm : X.mg "sorted" = none) (lm : Lm X C params body scope pa i) (ha : Snd X C a ga)
    (hb : ∀ (d' : Nat), d = d' + 3 → ∀ (f c' : Addr) (A : Around) (outer : List Env) (s2 s : Shared) (H : Hp), Room (d' + 2) (A.deeper (lamEnv X scope s2.heap.objs.size f c')) → PE (lamCx X A outer s H (fun _ _ _ => False) scope f c').nox body (tG X.K C fun σ m => (ev Γ n).e d' e σ m)) :
    Snd X C (.Call (.Name "sorted" p) [a] [⟨some "key", .Lambda params body scope lpos, kpos⟩] pos) (fun σ m => REbind (ga σ m) fun x m1 => getL m1 x fun _ xs => sortKW Γ (ev Γ n) d i e σ xs m1) :=
  Snd.val ⟨fun _ _ => rfl, fun _ _ => rfl, fun _ _ => rfl, fun op => by cases op <;> rfl, fun _ _ _ => rfl, fun _ _ _ _ => rfl⟩ ((pe_key hg hm boot_sorted lm ha.pe (key_sorted R hc hr lm hb) (by rw [ha.nice.star])).mono fun σ H Q ⟨ι, σ', m, s, S, pp⟩ => by
    refine tG_bind s S pp fun ι1 H1 w v m1 l1 t1 s1 S1 r1 p1 => ?_
    obtain ⟨nn, xs, rfl, hm1, p1⟩ := getL_inv p1
    cases r1 with
    | ref hn =>
      rename_i a1
      obtain ⟨a', e0, vs, h1, h2⟩ := S1.ob nn _ hm1
      rw [hn] at e0; cases e0
      exact ⟨S1.tabs, ι1, σ', m1, xs, vs, a1, rfl, .inl h1, s1, S1, h2, PostE.mono (fun _ _ => QV.base l1 t1) p1⟩) fun _ => rfl
theorem rg_src {H : Hp} {r : Addr} {x y : Int} (h : H r = some (.rng x y)) (hx : small x = true) (hy : small y = true) (hn : (y - x).toNat ≤ 2 ^ 24) : Src H r (rgV x y) := by
  obtain ⟨z1, z2, z3⟩ := small_ok hx
  obtain ⟨z4, z5, z6⟩ := small_ok hy
  exact .inr ⟨x, y, h, rfl, by omega, by omega, by omega, by omega, hn⟩
theorem rgW_len (i : Int) : ∀ n : Nat, (rngL i n).length = n := fun n => by
  induction n generalizing i with
  | zero => rfl
  | succ n ih => show (rngL (i + 1) n).length + 1 = _; rw [ih]
/-- sorted(range(a, b), key=lambda) -/
theorem snd_sortKR2 {params : Arguments} {body : Expr} {scope : Scope} {pa : Str} {i d n : Nat} {e : Ex} (R : Rng Γ C) (hc : X.calm = true) (hr : Room (d + 2) X.A) (hg : Gl X "sorted") (hm : X.mg "sorted" = none) (hgr : Gl X "range") (hmr : X.mg "range" = none) (lm : Lm X C params body scope pa i) (ha : Snd X C a ga) (hb2 : Snd X C b gb)
    (hb : ∀ (d' : Nat), d = d' + 3 → ∀ (f c' : Addr) (A : Around) (outer : List Env) (s2 s : Shared) (H : Hp), Room (d' + 2) (A.deeper (lamEnv X scope s2.heap.objs.size f c')) → PE (lamCx X A outer s H (fun _ _ _ => False) scope f c').nox body (tG X.K C fun σ m => (ev Γ n).e d' e σ m)) :
    Snd X C (.Call (.Name "sorted" p) [.Call (.Name "range" q) [a, b] [] ppos] [⟨some "key", .Lambda params body scope lpos, kpos⟩] pos) (fun σ m => REbind (ga σ m) fun x m1 => REbind (gb σ m1) fun y m2 => rngOf x y fun k n0 => sortKW Γ (ev Γ n) d i e σ (rngL k n0) m2) :=
  Snd.val ⟨fun _ _ => rfl, fun _ _ => rfl, fun _ _ => rfl, fun op => by cases op <;> rfl, fun _ _ _ => rfl, fun _ _ _ _ => rfl⟩ ((pe_key hg hm boot_sorted lm (pe_rgT2 hgr hmr ha.pe hb2.pe (ha.nice.star _ _) (hb2.nice.star _ _) (by rw [hb2.nice.star]; rfl)) (key_sorted R hc hr lm hb) rfl).mono fun σ H Q ⟨ι, σ', m, s, S, pp⟩ => by
    refine tG_bind s S pp fun ι1 H1 w v m1 l1 t1 s1 S1 r1 p1 => ?_
    refine tG_bind s1 S1 p1 fun ι2 H2 u y m2 l2 t2 s2 S2 r2 p2 => ?_
    obtain ⟨k, j, rfl, rfl, ⟨k1, k2⟩, p2⟩ := rngOf_inv p2
    obtain rfl := r1.int_inv
    obtain rfl := r2.int_inv
    refine ⟨k, j, rfl, rfl, fun r hr => ?_⟩
    have g : ∀ b o, H2 b = some o → upd H2 r (.rng k j) b = some o := fun b o e => by rw [upd_ne (ne_of_none e hr)]; exact e
    have S3 := simH_grow S2 g
    have tk3 : Tk X.K H2 (upd H2 r (.rng k j)) := .ext g
    have hn : (j - k).toNat ≤ 2 ^ 24 := by
      have h1 := (PostE.ifB p2).elim (fun z => z.1) fun z => z.2.elim
      rw [Bool.and_eq_true, rgW_len] at h1
      have := Nat.le_of_ble_eq_true h1.2
      omega
    exact ⟨S3.tabs, ι2, σ', m2, rngL k (j - k).toNat, rgV k j, r, rfl, rg_src upd_same k1 k2 hn, s2.mono tk3 (Le.refl _), S3, reps_rng _ k, PostE.mono (fun _ _ => QV.base (l1.trans l2) ((t1.trans t2).trans tk3)) p2⟩) fun _ => rfl
theorem snd_sortKR1 {params : Arguments} {body : Expr} {scope : Scope} {pa : Str} {i d n : Nat} {e : Ex} (R : Rng Γ C) (hc : X.calm = true) (hr : Room (d + 2) X.A) (hg : Gl X "sorted") (hm : X.mg "sorted" = none) (hgr : Gl X "range") (hmr : X.mg "range" = none) (lm : Lm X C params body scope pa i) (hz : Zero ga) (hb2 : Snd X C b gb)
    (hb : ∀ (d' : Nat), d = d' + 3 → ∀ (f c' : Addr) (A : Around) (outer : List Env) (s2 s : Shared) (H : Hp), Room (d' + 2) (A.deeper (lamEnv X scope s2.heap.objs.size f c')) → PE (lamCx X A outer s H (fun _ _ _ => False) scope f c').nox body (tG X.K C fun σ m => (ev Γ n).e d' e σ m)) :
    Snd X C (.Call (.Name "sorted" p) [.Call (.Name "range" q) [b] [] ppos] [⟨some "key", .Lambda params body scope lpos, kpos⟩] pos) (fun σ m => REbind (ga σ m) fun x m1 => REbind (gb σ m1) fun y m2 => rngOf x y fun k n0 => sortKW Γ (ev Γ n) d i e σ (rngL k n0) m2) :=
  Snd.val ⟨fun _ _ => rfl, fun _ _ => rfl, fun _ _ => rfl, fun op => by cases op <;> rfl, fun _ _ _ => rfl, fun _ _ _ _ => rfl⟩ ((pe_key hg hm boot_sorted lm (pe_rgT1 hgr hmr hb2.pe (hb2.nice.star _ _)) (key_sorted R hc hr lm hb) rfl).mono fun σ H Q ⟨ι, σ', m, s, S, pp⟩ => by
    have pp : PostE (QV X.K C ι H Q) (REbind (ga σ' m) fun x m1 => REbind (gb σ' m1) fun y m2 => rngOf x y fun k n0 => sortKW Γ (ev Γ n) d i e σ' (rngL k n0) m2) := pp
    rcases hz σ' m with ⟨e0, z⟩ | z
    · rw [z] at pp; exact pp.elim
    rw [z] at pp
    have pp : PostE (QV X.K C ι H Q) (REbind (gb σ' m) fun y m2 => rngOf (.int 0) y fun k n0 => sortKW Γ (ev Γ n) d i e σ' (rngL k n0) m2) := pp
    refine tG_bind s S pp fun ι2 H2 u y m2 l2 t2 s2 S2 r2 p2 => ?_
    obtain ⟨k, j, e1, rfl, ⟨k1, k2⟩, p2⟩ := rngOf_inv p2
    cases e1
    obtain rfl := r2.int_inv
    refine ⟨j, rfl, fun r hr => ?_⟩
    have g : ∀ b o, H2 b = some o → upd H2 r (.rng 0 j) b = some o := fun b o e => by rw [upd_ne (ne_of_none e hr)]; exact e
    have S3 := simH_grow S2 g
    have tk3 : Tk X.K H2 (upd H2 r (.rng 0 j)) := .ext g
    have hn : (j - 0).toNat ≤ 2 ^ 24 := by
      have h1 := (PostE.ifB p2).elim (fun z => z.1) fun z => z.2.elim
      rw [Bool.and_eq_true, rgW_len] at h1
      have := Nat.le_of_ble_eq_true h1.2
      omega
    exact ⟨S3.tabs, ι2, σ', m2, rngL 0 (j - 0).toNat, rgV 0 j, r, rfl, rg_src upd_same k1 k2 hn, s2.mono tk3 (Le.refl _), S3, reps_rng _ 0, PostE.mono (fun _ _ => QV.base l2 (t2.trans tk3)) p2⟩) fun _ => rfl
end
end
end Jw

/-! d.setdefault(k, v), d.get(k), d.get(k, v); a, b, c = x, y, z. -/
namespace Jw
open PySem PySem.Spec PyProof.Rows L2
noncomputable section
section
variable {X : Cx} {C : Cn} {Γ : Pg} {K : PySem.W.Frag} {ι : Im} {H : Hp} {m : M} {Q : VK} {a b c : Expr} {ga gb gc : Sl → M → RE W} {pos apos cpos : Pos} {E : XK}
theorem isDic_at {w : W} {v : V} (S : SimH K C ι m H) (r : RepV C (TT' K H) ι w v) (h : isDic m w = true) : ∃ n a t kvs, w = .ref n ∧ v = .ref a ∧ ι n = some a ∧ m.get n = some (.dict t kvs) ∧ IsD H a := by
  cases w with
  | ref n =>
    cases hm : m.get n with
    | none => simp only [isDic, tyW, tyO, hm] at h; cases h
    | some o =>
      cases o with
      | dict t kvs =>
        cases r with
        | ref hn =>
          obtain ⟨a', e1, e2⟩ := S.ob n _ hm
          rw [hn] at e1; cases e1
          refine ⟨n, _, t, kvs, rfl, rfl, hn, hm, ?_⟩
          cases t with
          | false => obtain ⟨ks, h1, _⟩ := e2; exact .inl ⟨ks, .inl h1⟩
          | true => obtain ⟨ks, h1, _⟩ := e2; exact .inr ⟨ks, .inl h1⟩
      | lst xs => simp only [isDic, tyW, tyO, hm] at h; cases h
      | scr => simp only [isDic, tyW, tyO, hm] at h; cases h
      | row => simp only [isDic, tyW, tyO, hm] at h; cases h
      | ins c fs => simp only [isDic, tyW, tyO, hm] at h; cases h
      | frd t kvs => simp only [isDic, tyW, tyO, hm] at h; cases h
  | _ => cases h
theorem m1_ok {name : Str} (hn : noBase a = true) (hl : (apos.endLine == cpos.line) = true) (nb : Nice b) : M1 X a name apos b cpos :=
  ⟨noBase_ok hn, by rw [nb.star]; rfl, hl, by rw [nb.star]; rfl⟩
theorem m2_ok {name : Str} (hn : noBase a = true) (hl : (apos.endLine == cpos.line) = true) (nb : Nice b) (nc : Nice c) : M2 X a name apos b c cpos :=
  ⟨noBase_ok hn, by rw [nb.star, nc.star]; rfl, hl, by rw [nb.star, nc.star]; rfl⟩
/-- o.get(k) -/
theorem snd_get1 (R : Rng Γ C) (hu : X.A.units + 64 < cLine) (hn : noBase a = true) (hl : (apos.endLine == cpos.line) = true) (ha : Snd X C a ga) (hb : Snd X C b gb) :
    Snd X C (.Call (.Attribute a "get" apos) [b] [] cpos) (fun σ m => REbind (ga σ m) fun x m1 => ifB (isDic m1 x) (REbind (gb σ m1) fun y m2 => rGet Γ x y m2) (.er (.stuck 52))) :=
  Snd.val ⟨fun _ _ => rfl, fun _ _ => rfl, fun _ _ => rfl, fun op => by cases op <;> rfl, fun _ _ _ => rfl, fun _ _ _ _ => rfl⟩ ((pe_dget1 (by omega) ha.pe hb.pe (m1_ok hn hl hb.nice)).mono fun σ H Q ⟨ι, σ', m, s, S, p⟩ =>
    tG_bind s S p fun ι1 H1 w v m1 l1 t1 s1 S1 r1 p1 => by
      obtain ⟨hp, p1⟩ := PostE.ifF p1
      obtain ⟨n, a', t, kvs, rfl, rfl, hn', hm, d⟩ := isDic_at S1 r1 hp
      refine ⟨a', rfl, d, ?_⟩
      refine tG_bind s1 S1 p1 fun ι2 H2 u y m2 l2 t2 s2 S2 r2 p2 => ?_
      obtain ⟨n2, t2', kvs2, e, hm2, p2⟩ := getD_inv p2
      cases e
      obtain ⟨hk, p2⟩ := PostE.ifF p2
      obtain ⟨q0, e0, p2⟩ := PostE.lift p2
      obtain ⟨o, g, alt⟩ := dict_at R.lo R.hi S2 (l2 _ _ hn') (.inl hm2) hk r2 e0
      refine ⟨o, g, ?_⟩
      have p2 := PostE.mono (fun _ _ => QV.base (l1.trans l2) (t1.trans t2)) p2
      rcases alt with ⟨e1, rfl⟩ | ⟨w', v', e1, rfl, q⟩
      · rw [e1] at p2; exact post_ok S2 .non p2
      · rw [e1] at p2; exact post_ok S2 q p2) fun _ => rfl
/-- o.get(k, d) -/
theorem snd_get2 (R : Rng Γ C) (hu : X.A.units + 64 < cLine) (hn : noBase a = true) (hl : (apos.endLine == cpos.line) = true) (ha : Snd X C a ga) (hb : Snd X C b gb) (hc : Snd X C c gc) :
    Snd X C (.Call (.Attribute a "get" apos) [b, c] [] cpos) (fun σ m => REbind (ga σ m) fun x m1 => ifB (isDic m1 x) (REbind (gb σ m1) fun y m2 => REbind (gc σ m2) fun z m3 => b3W Γ .get x y z m3) (.er (.stuck 52))) :=
  Snd.val ⟨fun _ _ => rfl, fun _ _ => rfl, fun _ _ => rfl, fun op => by cases op <;> rfl, fun _ _ _ => rfl, fun _ _ _ _ => rfl⟩ ((pe_dget2 (by omega) ha.pe hb.pe hc.pe (m2_ok hn hl hb.nice hc.nice)).mono fun σ H Q ⟨ι, σ', m, s, S, p⟩ =>
    tG_bind s S p fun ι1 H1 w v m1 l1 t1 s1 S1 r1 p1 => by
      obtain ⟨hp, p1⟩ := PostE.ifF p1
      obtain ⟨n, a', t, kvs, rfl, rfl, hn', hm, d⟩ := isDic_at S1 r1 hp
      refine ⟨a', rfl, d, ?_⟩
      refine tG_bind s1 S1 p1 fun ι2 H2 u y m2 l2 t2 s2 S2 r2 p2 => ?_
      refine tG_bind s2 S2 p2 fun ι3 H3 x z m3 l3 t3 s3 S3 r3 p3 => ?_
      obtain ⟨n2, t2', kvs2, e, hm2, p3⟩ := getD_inv p3
      cases e
      obtain ⟨hk, p3⟩ := PostE.ifF p3
      obtain ⟨q0, e0, p3⟩ := PostE.lift p3
      obtain ⟨o, g, alt⟩ := dict_at R.lo R.hi S3 (l3 _ _ (l2 _ _ hn')) (.inl hm2) hk (r2.mono t3 l3) e0
      refine ⟨o, g, ?_⟩
      have p3 : PostE (QV X.K C ι H Q) (.ok (q0.getD x) m3) := p3
      have p3 := PostE.mono (fun _ _ => QV.base ((l1.trans l2).trans l3) ((t1.trans t2).trans t3)) p3
      rcases alt with ⟨e1, rfl⟩ | ⟨w', v', e1, rfl, q⟩
      · rw [e1] at p3; exact post_ok S3 r3 p3
      · rw [e1] at p3; exact post_ok S3 q p3) fun _ => rfl
/-- o.setdefault(k, d) -/
theorem snd_setdef (R : Rng Γ C) (hn : noBase a = true) (hl : (apos.endLine == cpos.line) = true) (ha : Snd X C a ga) (hb : Snd X C b gb) (hc : Snd X C c gc) :
    Snd X C (.Call (.Attribute a "setdefault" apos) [b, c] [] cpos) (fun σ m => REbind (ga σ m) fun x m1 => ifB (isDic m1 x) (REbind (gb σ m1) fun y m2 => REbind (gc σ m2) fun z m3 => b3W Γ .setdef x y z m3) (.er (.stuck 52))) :=
  Snd.val ⟨fun _ _ => rfl, fun _ _ => rfl, fun _ _ => rfl, fun op => by cases op <;> rfl, fun _ _ _ => rfl, fun _ _ _ _ => rfl⟩ ((pe_dsetd ha.pe hb.pe hc.pe (m2_ok hn hl hb.nice hc.nice)).mono fun σ H Q ⟨ι, σ', m, s, S, p⟩ =>
    tG_bind s S p fun ι1 H1 w v m1 l1 t1 s1 S1 r1 p1 => by
      obtain ⟨hp, p1⟩ := PostE.ifF p1
      obtain ⟨n, a', t, kvs, rfl, rfl, hn', hm, d⟩ := isDic_at S1 r1 hp
      refine ⟨a', rfl, d, ?_⟩
      refine tG_bind s1 S1 p1 fun ι2 H2 u y m2 l2 t2 s2 S2 r2 p2 => ?_
      refine tG_bind s2 S2 p2 fun ι3 H3 x z m3 l3 t3 s3 S3 r3 p3 => ?_
      obtain ⟨n2, t2', kvs2, e, hm2, p3⟩ := getD_inv p3
      cases e
      obtain ⟨hk, p3⟩ := PostE.ifF p3
      obtain ⟨q0, e0, p3⟩ := PostE.lift p3
      have p3 : PostE (QV X.K C ι H Q) (ifB t2' (.er (.stuck 53)) (okL kvs2 (Option.rec (lift (putW Γ.lo Γ.hi u x kvs2) fun l => .ok x (m3.put n (.dict t2' l))) (fun w => .ok w m3) q0))) := p3
      cases t2' with
      | true => exact p3.elim
      | false =>
        obtain ⟨hz, p3⟩ := PostE.okL (show PostE (QV X.K C ι H Q) (okL kvs2 (Option.rec (lift (putW Γ.lo Γ.hi u x kvs2) fun l => .ok x (m3.put n (.dict false l))) (fun w => .ok w m3) q0)) from p3)
        have hn3 := l3 _ _ (l2 _ _ hn')
        obtain ⟨a2, e1, ks, h1, h2⟩ := S3.ob n _ hm2
        rw [hn3] at e1; cases e1
        obtain ⟨k', hk', rfl⟩ := key0_inv hk (r2.mono t3 l3)
        have p3 := PostE.mono (fun _ _ => QV.base ((l1.trans l2).trans l3) ((t1.trans t2).trans t3)) p3
        refine ⟨ks, k', h1, rfl, by rw [← h2.length]; exact size_lt hz, fun v' hv => ?_, fun hv => ?_⟩
        · rcases find_ok (keq_kR R.lo R.hi) hk' e0 h2 with ⟨f1, f2⟩ | ⟨w', v2, f1, f2, q⟩
          · rw [hv] at f2; cases f2
          · rw [f1] at p3
            rw [hv] at f2; cases f2
            exact post_ok S3 q p3
        · rcases find_ok (keq_kR R.lo R.hi) hk' e0 h2 with ⟨f1, f2⟩ | ⟨w', v2, f1, f2, q⟩
          · rw [f1] at p3
            obtain ⟨l9, e9, p3⟩ := PostE.lift (show PostE _ (lift (putW Γ.lo Γ.hi u x kvs2) fun l => .ok x (m3.put n (.dict false l))) from p3)
            have tk := tk_dK (K := X.K) (o := .dK (putK ks k' z)) h1
            have S4 := S3.put hn3 (S3.ne_root hm2 (by intro z; cases z)) (.inr (.inl ⟨_, h1⟩)) tk (o := .dict false l9) ⟨_, upd_same, ((put_ok (keq_kR R.lo R.hi) hk' r3 e9 h2).mono tk (Le.refl _))⟩
            exact p3 ι3 _ z S4 (Le.refl _) tk (r3.mono tk (Le.refl _))
          · rw [hv] at f2; cases f2) fun _ => rfl
/-- i, j, l = a, b, c -/
theorem snds_par3 {i j l : Nat} {x y z : Str} {px py pz pt : Pos} {kt k2 pt2} (hcl : X.calm = true) (hN : X.N.Nodup) (hi : X.N[i]? = some x) (hj : X.N[j]? = some y) (hl : X.N[l]? = some z) (hij : i ≠ j) (hil : i ≠ l) (hjl : j ≠ l)
    (hx : X.env.scope.names.lookup x = some .local) (hy : X.env.scope.names.lookup y = some .local) (hz : X.env.scope.names.lookup z = some .local) (ha : Snd X C a ga) (hb : Snd X C b gb) (hc : Snd X C c gc)
    (hw : swappedStores [.Tuple [.Name x px, .Name y py, .Name z pz] kt pt] (.Tuple [a, b, c] k2 pt2) X.env = pure (some [x, y, z]))
    (hs : swapsWithSole [.Tuple [.Name x px, .Name y py, .Name z pz] kt pt] (.Tuple [a, b, c] k2 pt2) pos.line X.env = pure false) :
    SndS E X C (.Assign [.Tuple [.Name x px, .Name y py, .Name z pz] kt pt] (.Tuple [a, b, c] k2 pt2) pos) (fun σ m => SB σ (REbind (ga σ m) fun w m1 => REbind (REbind (gb σ m1) fun w m2 => REbind (REbind (gc σ m2) fun w m3 => REbind (RE.ok [] m3) fun ws m4 => .ok (w :: ws) m4) fun ws m3 => .ok (w :: ws) m3) fun ws m2 => .ok (w :: ws) m2) fun ws m1 => ifB (Nat.beq ws.length 3) (.nx (parW [i, j, l] ws σ) m1) (.er (.stuck 42))) :=
  ⟨⟨fun pins s σ H D I ⟨ι, σ', m, sσ, S, p⟩ => (ps_par3 hcl hN hi hj hl hij hil hjl hx hy hz (pa_cons ha.pe (pa_cons hb.pe (pa_cons hc.pe pa_nil (hc.nice.star _ _)) (hb.nice.star _ _)) (ha.nice.star _ _)) hw hs).run pins s σ H D I (by
    have hli : i < σ.length := by rw [I.len]; exact (List.getElem?_eq_some_iff.mp hi).1
    have hlj : j < σ.length := by rw [I.len]; exact (List.getElem?_eq_some_iff.mp hj).1
    have hll : l < σ.length := by rw [I.len]; exact (List.getElem?_eq_some_iff.mp hl).1
    refine tG_bind sσ S (SBind p) fun ι1 H1 w v m1 l1 t1 s1 S1 r1 p1 => ?_
    have p1 := PostE.bind p1
    refine tG_bind s1 S1 p1 fun ι2 H2 u v2 m2 l2 t2 s2 S2 r2 p2 => ?_
    have p2 := PostE.bind p2
    refine tG_bind s2 S2 p2 fun ι3 H3 q v3 m3 l3 t3 s3 S3 r3 p3 => ?_
    refine ⟨v, v2, v3, rfl, ?_⟩
    have p3 : PostS E X.K C ι H D (.nx (setSl (setSl (setSl σ' i (some w)) j (some u)) l (some q)) m3) := p3
    exact p3 ι3 H3 _ S3 ((l1.trans l2).trans l3) ((t1.trans t2).trans t3) (((s3.set hli (r1.mono (t2.trans t3) (l2.trans l3))).set (by rw [List.length_set]; exact hlj) (r2.mono t3 l3)).set (by rw [List.length_set, List.length_set]; exact hll) r3))⟩⟩
end
end
end Jw

/-! min(xs, key=lambda), xs a list. -/
namespace Jw
open PySem PySem.Calls PySem.Spec PyProof.Rows L2 LamX
noncomputable section
section
variable {X : Cx} {C : Cn} {Γ : Pg} {ι : Im} {H : Hp} {m : M} {Q : VK} {pins : List (Addr × Obj)} {σ : L2.St} {σ' : Sl}
/-- where the walk stands: i items are read, the best pair is b (vb the item, kb its key) -/
structure MinSt (X : Cx) (C : Cn) (pins : List (Addr × Obj)) (σ : L2.St) (σ' : Sl) (m : M) (ι : Im) (H : Hp) (P : Addr) (lpos : Pos) (c' : Addr) (nl : Ad) (l I S : Addr) (i : Nat) (s : Shared) (H' : Hp) (ι' : Im) : Prop where
  inv : Inv X pins σ H' s
  ss : SimS X.K C ι' H' σ' σ
  sh : SimH X.K C ι' m H'
  le : Le ι ι'
  tk : Tk X.K H H'
  ca : CodeAt H' P lpos c'
  hl : ι' nl = some l
  it : s.heap.IsListIter I l i
  fI : FpOk X pins H' I
  fS : FpOk X pins H' S
theorem min_loop {params : Arguments} {body : Expr} {scope : Scope} {lpos : Pos} {a : Str} {p d n : Nat} {b : Ex} {f c' P : Addr} {pm ctv : Value} {xs ks : List W} {nl : Ad} {l I S : Addr} (R : Rng Γ C) (hc : X.calm = true) (hu : Room (d + 5) X.A) (lm : Lm X C params body scope a p) (hPt : (P, X.env.qual ++ "<lambda>") ∈ C.tb) (hm : m.get nl = some (.lst xs)) (neIS : I ≠ S)
    (hb : ∀ (A : Around) (outer : List Env) (s : Shared) (H : Hp), Room (d + 2) (A.deeper (lamEnv X scope s.heap.objs.size f c')) → PE (lamCx X A outer s H (fun _ _ _ => False) scope f c').nox body (tG X.K C fun σ m => (ev Γ n).e d b σ m))
    (hks : keysP (ev Γ n) p b σ' m xs = .ok ks) (hck : cmpOk m ks = true) {Rr : Result → Shared → Prop} {kw : List (Str × Value)} :
    ∀ (ys : List (W × W)) (j : Nat) (bp r : W × W) (s : Shared) (H' : Hp) (ι' : Im) (vb kb : Value) (xvb kvb : V) (c : Nat), (ks.zip xs).drop j = ys → bp ∈ ks.zip xs → minP Γ.lo Γ.hi m ys bp = .ok r →
      MinSt X C ((f, PySem.W.kla_obj "<lambda>" (X.env.qual ++ "<lambda>") params body scope (cloFrom X.env.cells scope.names []) pm c' ctv) :: pins) σ σ' m ι H P lpos c' nl l I S j s H' ι' →
      s.heap.get? S = some { cls := .type "list", dict := none, data := .seq #[vb, kb] c, slots := #[] } → RepV C (TT' X.K H') ι' bp.2 xvb → RelV xvb vb → RepV C (TT' X.K H') ι' bp.1 kvb → RelV kvb kb →
      (∀ v s' H2 ι2 xv, Inv X ((f, PySem.W.kla_obj "<lambda>" (X.env.qual ++ "<lambda>") params body scope (cloFrom X.env.cells scope.names []) pm c' ctv) :: pins) σ H2 s' → SimH X.K C ι2 m H2 → Le ι ι2 → Tk X.K H H2 → RepV C (TT' X.K H2) ι2 r.2 xv → RelV xv v → Rr (.ok (.ret v)) s') →
      codeAny (model X.prog X.w) X.A (.builtin "min.loop" ⟨[.ref I, .ref f, .ref S], kw⟩) Rr s := by
  have hname : (toString "min" ++ toString ".loop" : String) = "min.loop" := by decide
  obtain ⟨kl, kat⟩ := keysP_len hks
  obtain ⟨kd, kal, knn⟩ := cmpOk_ok (C := C) hck
  have zl : (ks.zip xs).length = xs.length := by rw [List.length_zip]; omega
  intro ys
  induction ys with
  | nil =>
    intro j bp r s H' ι' vb kb xvb kvb c hd hbp hr st hS rx rv rk rkv hR
    cases hr
    have hj : xs.length ≤ j := by
      have := List.drop_eq_nil_iff.mp hd
      omega
    obtain ⟨xvs, f2, rs⟩ := lst_at st.sh st.hl hm
    obtain ⟨its, rvs, pl, hz⟩ := st.inv.list (show SqL X.K H' l xvs from .inl (.inl f2))
    have hlen : its.length = xs.length := by rw [← rvs.length, ← rs.length]
    refine codeAny_builtin F.entry_min_loop ?_
    rw [Around.under_plainId F.plain_min_loop _]
    show wpAny _ X.A.in1 (seqItems? (.ref S) >>= _) _ _ s
    refine wpAny_bind (wpAny_seqItems hS rfl ?_)
    show wpAny _ X.A.in1 (tryCatch (pyNext (.ref I)) _ >>= _) _ _ s
    refine wpAny_bind (wpAny_tryCatch (wpAny_pyNext_list_end (hu.hd) st.it pl.isList (by simp; omega) fun g hg => ?_))
    have hS' : g.get? S = _ := hg S _ (Ne.symm neIS) hS
    show wpAny _ X.A.in1 (updateSeq S (fun _ => #[]) >>= _) _ _ _
    refine wpAny_bind ?_
    refine wpAny_updateSeq hS' rfl (wpAny_bind (wpAny_letGo (wpAny_pure ?_)))
    have sb := Heap.SameBut.update g S (Obj.mapSeq fun _ => (#[] : Array Value))
    have I2 := turnedL (t' := s.toks) (h' := g.update S (Obj.mapSeq fun _ => (#[] : Array Value))) [I, S] st.inv (fun b o hb e => (sb.2 b (fun z => hb (by simp [z]))).trans (hg b o (fun z => hb (by simp [z])) e)) fun b hb => by
      rcases List.mem_cons.mp hb with e | hb
      · rw [e]; exact st.fI
      · have e : b = S := by simpa using hb
        rw [e]; exact st.fS
    exact hR vb _ H' ι' xvb I2 st.sh st.le st.tk rx rv
  | cons y ys ih =>
    intro j bp r s H' ι' vb kb xvb kvb c hd hbp hr st hS rx rv rk rkv hR
    have hy : (ks.zip xs)[j]? = some y := by
      have := congrArg (fun l => l[0]?) hd
      simpa [List.getElem?_drop] using this
    have hj : j < xs.length := by rw [← zl]; exact (List.getElem?_eq_some_iff.mp hy).1
    obtain ⟨hyk, hyx⟩ := List.getElem?_zip_eq_some.mp hy
    have hymem : y ∈ ks.zip xs := List.mem_of_getElem? hy
    obtain ⟨xvs, f2, rs⟩ := lst_at st.sh st.hl hm
    obtain ⟨its, rvs, pl, hz⟩ := st.inv.list (show SqL X.K H' l xvs from .inl (.inl f2))
    obtain ⟨xv, hxv, rxv⟩ := rs.get hyx
    obtain ⟨u, hu2, ru⟩ := rvs.get hxv
    obtain ⟨kw', hkw, hev⟩ := kat j y.2 hyx
    rw [hyk] at hkw
    cases hkw
    refine codeAny_builtin F.entry_min_loop ?_
    rw [Around.under_plainId F.plain_min_loop _]
    show wpAny _ X.A.in1 (seqItems? (.ref S) >>= _) _ _ s
    refine wpAny_bind (wpAny_seqItems hS rfl ?_)
    show wpAny _ X.A.in1 (tryCatch (pyNext (.ref I)) _ >>= _) _ _ s
    refine wpAny_bind (wpAny_tryCatch (wpAny_pyNext_list_item st.it pl.isList (x := u) (by simpa using hu2) fun g hit hg => ?_))
    have hS1 : g.get? S = _ := (hg.2 S (Ne.symm neIS)).trans hS
    have J1 : Inv X _ σ H' { s with heap := g, toks := s.toks } := turnedL (t' := s.toks) (h' := g) [I] st.inv (fun b o hb e => (hg.2 b (fun z => hb (by simp [z]))).trans e) fun b hb => by
      have e : b = I := by simpa using hb
      rw [e]; exact st.fI
    obtain ⟨oI, hoI, hcI, hdI⟩ := id hit
    have J2 := pin_cons J1 (show ({ s with heap := g, toks := s.toks } : Shared).heap.get? I = some oI from hoI) st.fI (fun v z => by rw [hdI] at z; cases z)
    have fS2 : FpOk X ((I, oI) :: (f, PySem.W.kla_obj "<lambda>" (X.env.qual ++ "<lambda>") params body scope (cloFrom X.env.cells scope.names []) pm c' ctv) :: pins) H' S := ⟨st.fS.1, st.fS.2.1, st.fS.2.2.1, st.fS.2.2.2.1, st.fS.2.2.2.2.1, fun q hq => by
      rcases List.mem_append.mp hq with z | z
      · exact st.fS.2.2.2.2.2 q (List.mem_append_left _ z)
      · rcases List.mem_cons.mp z with e | z
        · rw [e]; exact neIS
        · exact st.fS.2.2.2.2.2 q (List.mem_append_right _ z)⟩
    have J3 := pin_cons J2 (show ({ s with heap := g, toks := s.toks } : Shared).heap.get? S = some _ from hS1) fS2 (fun v z => by cases z)
    have hf' : g.get? f = some (PySem.W.kla_obj "<lambda>" (X.env.qual ++ "<lambda>") params body scope (cloFrom X.env.cells scope.names []) pm c' ctv) := (J3.pin (f, _) (List.mem_append_right _ (List.mem_cons_of_mem _ (List.mem_cons_of_mem _ (List.mem_cons_self ..))))).1
    show wpAny _ X.A.in1 (tryCatch (holding [u] (call (.ref f) [u])) _ >>= _) _ _ _
    refine wpAny_bind (wpAny_tryCatch (wpAny_holding (wpAny_mono (key_call (A' := X.A.in1) (d := d) lm hPt J3 hf' J3.ok.frames ((Room.in1 hu).mono (by omega)) st.ss st.sh st.ca hb hev rxv ru) (fun kx s2 hq => ?_) fun _ _ z => z)))
    obtain ⟨kvx, H2, J4, rkx, ι2, l2, t2, S2, rkw, ca2⟩ := hq
    obtain ⟨hS2, nS2⟩ := pin_at J4
    have J5 := pin_tail J4
    obtain ⟨hI2, nI2⟩ := pin_at J5
    have J6 := pin_tail J5
    have rk2 := rk.mono t2 l2
    have rx2 := rx.mono t2 l2
    have al := kal y.1 (List.of_mem_zip hymem).1 bp.1 (List.of_mem_zip hbp).1
    have d1 := allL_ok kd y.1 (List.of_mem_zip hymem).1
    have d2 := allL_ok kd bp.1 (List.of_mem_zip hbp).1
    have q1 := dt_dp S2 12 _ _ d1 rkw
    have q2 := dt_dp S2 12 _ _ d2 rk2
    obtain ⟨as1, rd1⟩ := Dp.readsAll J4 [_] [kvx] [kx] (.cons q1.1 .nil) (.cons rkx .nil)
    obtain ⟨as2, rd2⟩ := Dp.readsAll J4 [_] [kvb] [kb] (.cons q2.1 .nil) (.cons rkv .nil)
    obtain ⟨b1, rd1⟩ : ∃ bs, Reads s2.heap kx (dat C.x m 12 y.1) bs := by cases rd1 with | cons a b => exact ⟨_, a⟩
    obtain ⟨b2, rd2⟩ : ∃ bs, Reads s2.heap kb (dat C.x m 12 bp.1) bs := by cases rd2 with | cons a b => exact ⟨_, a⟩
    show wpAny _ X.A.in1 (tryCatch (holding [u, kx] (richCompare .Lt kx kb >>= _)) _ >>= _) _ _ _
    refine wpAny_bind (wpAny_tryCatch (wpAny_holding (wpAny_bind (PySem.W.lt_data rd1 rd2 al (knn y.1 (List.of_mem_zip hymem).1) (by
      have := hu.un
      have := q1.2.2
      show X.A.units + 1 + _ < cLine
      omega) ?_))))
    refine wpAny_bind (wpAny_holding (wpAny_truthy_bool ?_))
    refine wpAny_bind (wpAny_letGo (wpAny_pure ?_))
    have it2 : s2.heap.IsListIter I l (j + 1) := ⟨oI, hI2, hcI, hdI⟩
    have hr : exIf (ltN Γ.lo Γ.hi m 12 y.1 bp.1) (minP Γ.lo Γ.hi m ys y) (minP Γ.lo Γ.hi m ys bp) = .ok r := hr
    have hd2 : (ks.zip xs).drop (j + 1) = ys := by
      have := congrArg List.tail hd
      rw [List.tail_drop] at this
      exact this
    rcases exIf_ok hr with ⟨e, hr⟩ | ⟨e, hr⟩
    · have e2 := ltN_dat R.lo R.hi 12 12 y.1 bp.1 true (Nat.le_refl _) d1 d2 al e
      rw [e2]
      simp only [if_true]
      refine wpAny_bind ?_
      refine wpAny_updateSeq hS2 rfl (wpAny_bind (wpAny_letGo ?_))
      rw [hname]
      have sb := Heap.SameBut.update s2.heap S (Obj.mapSeq fun _ => #[u, kx])
      have J7 := turnedL (t' := s2.toks) (h' := s2.heap.update S (Obj.mapSeq fun _ => #[u, kx])) [S] J6 (fun b o hb e => (sb.2 b (by simpa using hb)).trans e) fun b hb => by
        have e : b = S := by simpa using hb
        rw [e]; exact fpOk_at st.fS nS2
      exact wpAny_pure ⟨plainId_quiet F.plain_min_loop _, ih (j + 1) y r _ H2 ι2 u kx xv kvx _ hd2 hymem hr ⟨J7, st.ss.mono t2 l2, S2, st.le.trans l2, st.tk.trans t2, ca2, l2 _ _ st.hl, ⟨oI, (sb.2 I neIS).trans hI2, hcI, hdI⟩, fpOk_at st.fI nI2, fpOk_at st.fS nS2⟩
        (Heap.get?_update_self _ hS2 rfl) (rxv.mono t2 l2) ru rkw rkx hR⟩
    · have e2 := ltN_dat R.lo R.hi 12 12 y.1 bp.1 false (Nat.le_refl _) d1 d2 al e
      rw [e2]
      simp only [Bool.false_eq_true, if_false]
      refine wpAny_bind (wpAny_letGo ?_)
      rw [hname]
      exact wpAny_pure ⟨plainId_quiet F.plain_min_loop _, ih (j + 1) bp r _ H2 ι2 vb kb xvb kvb c hd2 hbp hr ⟨J6, st.ss.mono t2 l2, S2, st.le.trans l2, st.tk.trans t2, ca2, l2 _ _ st.hl, it2, fpOk_at st.fI nI2, fpOk_at st.fS nS2⟩ hS2 rx2 rv rk2 rkv hR⟩
/-- min(xs, key=f), run -/
theorem run_minK {params : Arguments} {body : Expr} {scope : Scope} {lpos : Pos} {a : Str} {p d n : Nat} {b : Ex} {f c' P : Addr} {pm ctv : Value} {xs : List W} {nl : Ad} {l : Addr} {s : Shared} (R : Rng Γ C) (hc : X.calm = true) (hu : Room (d + 5) X.A) (lm : Lm X C params body scope a p) (hPt : (P, X.env.qual ++ "<lambda>") ∈ C.tb)
    (I : Inv X pins σ H s) (hf : s.heap.get? f = some (PySem.W.kla_obj "<lambda>" (X.env.qual ++ "<lambda>") params body scope (cloFrom X.env.cells scope.names []) pm c' ctv)) (hfF : FpOk X pins H f)
    (s0 : SimS X.K C ι H σ' σ) (S : SimH X.K C ι m H) (ca : CodeAt H P lpos c') (hn : ι nl = some l) (hm : m.get nl = some (.lst xs))
    (hb : ∀ (A : Around) (outer : List Env) (s : Shared) (H : Hp), Room (d + 2) (A.deeper (lamEnv X scope s.heap.objs.size f c')) → PE (lamCx X A outer s H (fun _ _ _ => False) scope f c').nox body (tG X.K C fun σ m => (ev Γ n).e d b σ m))
    (hp : PostE (QV X.K C ι H Q) (minKW Γ (ev Γ n) (d + 3) p b σ' xs m)) {E : Value → Shared → Prop} :
    wpAny (model X.prog X.w) X.A (call (.builtin "min") [.ref l] [(Str.ofString "key", .ref f)]) (EP X pins σ Q) E s := by
  have hname : (toString "min" ++ toString ".loop" : String) = "min.loop" := by decide
  obtain ⟨_, hp⟩ := (show Nat.ble 3 (d + 3) = true ∧ PostE (QV X.K C ι H Q) (lift (keysP (ev Γ n) p b σ' m xs) fun ks => ifB (cmpOk m ks) (List.casesOn (ks.zip xs) (.er (.stuck 18)) fun y ys => lift (minP Γ.lo Γ.hi m ys y) fun r => .ok r.2 m) (.er (.stuck 2))) from (PostE.ifB hp).elim id fun z => z.2.elim)
  obtain ⟨ks, hks, hp⟩ := PostE.lift hp
  obtain ⟨hck, hp⟩ := PostE.ifF hp
  obtain ⟨kl, kat⟩ := keysP_len hks
  cases hz : ks.zip xs with
  | nil => rw [hz] at hp; exact hp.elim
  | cons y ys =>
    rw [hz] at hp
    obtain ⟨r, hr, hp⟩ := PostE.lift hp
    have hy : (ks.zip xs)[0]? = some y := by rw [hz]; rfl
    obtain ⟨hyk, hyx⟩ := List.getElem?_zip_eq_some.mp hy
    have hymem : y ∈ ks.zip xs := List.mem_of_getElem? hy
    obtain ⟨kw', hkw, hev⟩ := kat 0 y.2 hyx
    rw [hyk] at hkw
    cases hkw
    obtain ⟨xvs, f2, rs⟩ := lst_at S hn hm
    obtain ⟨its, rvs, pl, hzl⟩ := I.list (show SqL X.K H l xvs from .inl (.inl f2))
    obtain ⟨xv, hxv, rxv⟩ := rs.get hyx
    obtain ⟨u, hu2, ru⟩ := rvs.get hxv
    have P0 := pin_cons I hf hfF (fun v z => by cases z)
    refine kmk_tree F.kind_min F.plain_min F.entry_min (kmk_min_key _ _) ?_
    show wpAny _ X.A.in1 (Builtin.Builtins.bindParams "min" ["key", "default"] 0 ⟨[], [(Str.ofString "key", .ref f)]⟩ >>= _) _ _ s
    refine wpAny_bind (wpAny_of_eq (show Builtin.Builtins.bindParams "min" ["key", "default"] 0 ⟨[], [(Str.ofString "key", .ref f)]⟩ = pure [some (.ref f), none] from rfl) ?_)
    refine wpAny_bind (wpAny_pure ?_)
    refine wpAny_bind (wpAny_pyIter_list pl.isList ?_)
    refine wpAny_bind (wpAny_newObj_type ?_)
    rw [hname]
    have sz : (s.heap.push { cls := .type "list_iterator", data := .fields #[.ref l, .int 0 0] }).objs.size = s.heap.objs.size + 1 := by rw [Heap.size_push]
    have P1 : Inv X _ σ H { s with heap := (s.heap.push { cls := .type "list_iterator", data := .fields #[.ref l, .int 0 0] }).push { cls := .type "list", data := .seq #[] 0 }, toks := s.toks } := P0.kept (t' := s.toks) fun b o e => Heap.get?_push_of_some _ (Heap.get?_push_of_some _ e)
    have hit0 : ((s.heap.push { cls := .type "list_iterator", data := .fields #[.ref l, .int 0 0] }).push { cls := .type "list", data := .seq #[] 0 }).IsListIter s.heap.objs.size l 0 := ⟨_, Heap.get?_push_of_some _ (Heap.get?_push_size _ rfl), rfl, rfl⟩
    have hS0 : ((s.heap.push { cls := .type "list_iterator", data := .fields #[.ref l, .int 0 0] }).push { cls := .type "list", data := .seq #[] 0 }).get? (s.heap.push { cls := .type "list_iterator", data := .fields #[.ref l, .int 0 0] }).objs.size = some { cls := .type "list", data := .seq #[] 0 } := Heap.get?_push_size _ rfl
    have fI := P0.fpOk (H' := H) (b := s.heap.objs.size) (Nat.le_refl _) (I.hok.fresh (Nat.le_refl _))
    have fS := P0.fpOk (H' := H) (b := s.heap.objs.size + 1) (Nat.le_succ _) (I.hok.fresh (Nat.le_succ _))
    have neIS : s.heap.objs.size ≠ s.heap.objs.size + 1 := Nat.ne_of_lt (Nat.lt_succ_self _)
    refine wpAny_pure ⟨plainId_quiet F.plain_min_loop _, ?_⟩
    rw [sz] at hS0
    show codeAny _ X.A (.builtin "min.loop" ⟨[.ref s.heap.objs.size, .ref f, .ref (s.heap.push { cls := .type "list_iterator", data := .fields #[.ref l, .int 0 0] }).objs.size], []⟩) _ { s with heap := (s.heap.push { cls := .type "list_iterator", data := .fields #[.ref l, .int 0 0] }).push { cls := .type "list", data := .seq #[] 0 }, toks := s.toks }
    rw [sz]
    generalize (s.heap.push { cls := .type "list_iterator", data := .fields #[.ref l, .int 0 0] }).push { cls := .type "list", data := .seq #[] 0 } = g0 at P1 hit0 hS0 ⊢
    obtain ⟨its2, rvs2, pl2, hz2⟩ := P1.list (show SqL X.K H l xvs from .inl (.inl f2))
    obtain ⟨u2, hu3, ru2⟩ := rvs2.get hxv
    refine codeAny_builtin F.entry_min_loop ?_
    rw [Around.under_plainId F.plain_min_loop _]
    show wpAny _ X.A.in1 (seqItems? (.ref (s.heap.objs.size + 1)) >>= _) _ _ _
    refine wpAny_bind (wpAny_seqItems hS0 rfl ?_)
    show wpAny _ X.A.in1 (tryCatch (pyNext (.ref s.heap.objs.size)) _ >>= _) _ _ _
    refine wpAny_bind (wpAny_tryCatch (wpAny_pyNext_list_item hit0 pl2.isList (x := u2) (by simpa using hu3) fun g hit hg => ?_))
    have hS1 : g.get? (s.heap.objs.size + 1) = _ := (hg.2 _ (Ne.symm neIS)).trans hS0
    have J1 : Inv X _ σ H { s with heap := g, toks := s.toks } := turnedL (s := { s with heap := g0, toks := s.toks }) (t' := s.toks) (h' := g) [s.heap.objs.size] P1 (fun b o hb e => (hg.2 b (fun z => hb (by simp [z]))).trans e) fun b hb => by
      have e : b = s.heap.objs.size := by simpa using hb
      rw [e]; exact fI
    obtain ⟨oI, hoI, hcI, hdI⟩ := id hit
    have J2 := pin_cons J1 (show ({ s with heap := g, toks := s.toks } : Shared).heap.get? s.heap.objs.size = some oI from hoI) fI (fun v z => by rw [hdI] at z; cases z)
    have fS2 : FpOk X ((s.heap.objs.size, oI) :: (f, PySem.W.kla_obj "<lambda>" (X.env.qual ++ "<lambda>") params body scope (cloFrom X.env.cells scope.names []) pm c' ctv) :: pins) H (s.heap.objs.size + 1) := ⟨fS.1, fS.2.1, fS.2.2.1, fS.2.2.2.1, fS.2.2.2.2.1, fun q hq => by
      rcases List.mem_append.mp hq with z | z
      · exact fS.2.2.2.2.2 q (List.mem_append_left _ z)
      · rcases List.mem_cons.mp z with e | z
        · rw [e]; exact neIS
        · exact fS.2.2.2.2.2 q (List.mem_append_right _ z)⟩
    have J3 := pin_cons J2 (show ({ s with heap := g, toks := s.toks } : Shared).heap.get? (s.heap.objs.size + 1) = some _ from hS1) fS2 (fun v z => by cases z)
    have hf' : g.get? f = some (PySem.W.kla_obj "<lambda>" (X.env.qual ++ "<lambda>") params body scope (cloFrom X.env.cells scope.names []) pm c' ctv) := (J3.pin (f, _) (List.mem_append_right _ (List.mem_cons_of_mem _ (List.mem_cons_of_mem _ (List.mem_cons_self ..))))).1
    show wpAny _ X.A.in1 (tryCatch (holding [u2] (call (.ref f) [u2])) _ >>= _) _ _ _
    refine wpAny_bind (wpAny_tryCatch (wpAny_holding (wpAny_mono (key_call (A' := X.A.in1) (d := d) lm hPt J3 hf' J3.ok.frames ((Room.in1 hu).mono (by omega)) s0 S ca hb hev rxv ru2) (fun kx s2 hq => ?_) fun _ _ z => z)))
    obtain ⟨kvx, H2, J4, rkx, ι2, l2, t2, S2, rkw, ca2⟩ := hq
    obtain ⟨hS2, nS2⟩ := pin_at J4
    have J5 := pin_tail J4
    obtain ⟨hI2, nI2⟩ := pin_at J5
    have J6 := pin_tail J5
    show wpAny _ X.A.in1 (updateSeq (s.heap.objs.size + 1) (fun _ => #[u2, kx]) >>= _) _ _ _
    refine wpAny_bind ?_
    refine wpAny_updateSeq hS2 rfl ?_
    rw [hname]
    have sb := Heap.SameBut.update s2.heap (s.heap.objs.size + 1) (Obj.mapSeq fun _ => #[u2, kx])
    have J7 := turnedL (t' := s2.toks) (h' := s2.heap.update (s.heap.objs.size + 1) (Obj.mapSeq fun _ => #[u2, kx])) [s.heap.objs.size + 1] J6 (fun b o hb e => (sb.2 b (by simpa using hb)).trans e) fun b hb => by
      have e : b = s.heap.objs.size + 1 := by simpa using hb
      rw [e]; exact fpOk_at fS nS2
    refine wpAny_pure ⟨plainId_quiet F.plain_min_loop _, min_loop R hc hu lm hPt hm neIS hb hks hck ys 1 y r _ H2 ι2 u2 kx xv kvx _ (by rw [hz]; rfl) hymem hr ⟨J7, s0.mono t2 l2, S2, l2, t2, ca2, l2 _ _ hn, ⟨oI, (sb.2 _ neIS).trans hI2, hcI, hdI⟩, fpOk_at fI nI2, fpOk_at fS nS2⟩
      (Heap.get?_update_self _ hS2 rfl) (rxv.mono t2 l2) ru2 rkw rkx fun v s' H3 ι3 xv3 I3 S3 l3 t3 rx3 rv3 => ?_⟩
    exact ⟨xv3, H3, pin_tail I3, rv3, hp ι3 H3 xv3 S3 l3 t3 rx3⟩
theorem boot_min' : bootBuiltins "min" = some (.builtin "min") := boot_min
/-- min(xs, key=lambda) -/
theorem snd_minK {ae : Expr} {ga : Sl → M → RE W} {q pos kpos : Pos} {params : Arguments} {body : Expr} {scope : Scope} {lpos : Pos} {pa : Str} {i d n : Nat} {e : Ex} (R : Rng Γ C) (hc : X.calm = true) (hr : Room (d + 2) X.A) (hg : Gl X "min") (hm : X.mg "min" = none) (lm : Lm X C params body scope pa i) (ha : Snd X C ae ga)
    (hb : ∀ (d' : Nat), d = d' + 3 → ∀ (f c' : Addr) (A : Around) (outer : List Env) (s2 s : Shared) (H : Hp), Room (d' + 2) (A.deeper (lamEnv X scope s2.heap.objs.size f c')) → PE (lamCx X A outer s H (fun _ _ _ => False) scope f c').nox body (tG X.K C fun σ m => (ev Γ n).e d' e σ m)) :
    Snd X C (.Call (.Name "min" q) [ae] [⟨some "key", .Lambda params body scope lpos, kpos⟩] pos) (fun σ m => REbind (ga σ m) fun x m1 => getL m1 x fun _ xs => minKW Γ (ev Γ n) d i e σ xs m1) :=
  Snd.val ⟨fun _ _ => rfl, fun _ _ => rfl, fun _ _ => rfl, fun op => by cases op <;> rfl, fun _ _ _ => rfl, fun _ _ _ _ => rfl⟩ ((pe_key (R := fun x σ H Q => ∃ (ι : Im) (σ' : Sl) (m : M) (xs : List W) (nl : Ad) (l : Addr), x = .ref l ∧ ι nl = some l ∧ m.get nl = some (.lst xs) ∧ SimS X.K C ι H σ' σ ∧ SimH X.K C ι m H ∧ PostE (QV X.K C ι H Q) (minKW Γ (ev Γ n) d i e σ' xs m)) hg hm boot_min lm ha.pe
    (by
      intro pins s σ H Q x u f c' P pm ctv H1 I rx hPt hf hfF eN gt T ca ⟨ι, σ', m, xs, nl, l, ex, hn, hml, s0, S, hp⟩
      subst ex
      obtain rfl : u = Value.ref l := rx
      have hd : ∃ d', d = d' + 3 := by
        have h1 := (PostE.ifB hp).elim (fun z => z.1) fun z => z.2.elim
        have := Nat.le_of_ble_eq_true h1
        exact ⟨d - 3, by omega⟩
      obtain ⟨d', rfl⟩ := hd
      have tk : Tk X.K H1 H := tk_N eN
      exact run_minK (d := d') R hc hr lm hPt I hf hfF (s0.mono tk (Le.refl ι)) (simH_growN S eN gt T) ca hn hml (fun A outer s3 H3 hr3 => hb d' rfl f c' A outer s3 s3 H3 hr3) (PostE.mono (fun _ _ => QV.base (Le.refl ι) tk) hp)) (by rw [ha.nice.star])).mono fun σ H Q ⟨ι, σ', m, s, S, pp⟩ => by
    refine tG_bind s S pp fun ι1 H1 w v m1 l1 t1 s1 S1 r1 p1 => ?_
    obtain ⟨nn, xs, rfl, hm1, p1⟩ := getL_inv p1
    cases r1 with
    | ref hn => exact ⟨S1.tabs, ι1, σ', m1, xs, nn, _, rfl, hn, hm1, s1, S1, PostE.mono (fun _ _ => QV.base l1 t1) p1⟩) fun _ => rfl
end
end
end Jw

/-! [.. for .. for ..]; stars in displays. -/
namespace Jw
open PySem PySem.Spec PyProof.Rows L2
noncomputable section
section
variable {X : Cx} {C : Cn} {K : PySem.W.Frag} {ι ι1 : Im} {H H1 : Hp} {m m1 : M} {Q : VK} {Γ : Pg} {a : Expr} {ga : Sl → M → RE W} {pos : Pos}
/-- a walk's turns that put items to the list at D -/
def turnsW (gt : W → Sl → M → RE Sl) (gf ge : Sl → M → RE W) (own : List Nat) (σ' : Sl) (D' : Ad) : W → M → RE Unit := fun w m => REbind (noExc (gt w (wipeW σ' own) m)) fun σ2 m2 => REbind (noExc (gf σ2 m2)) fun c m3 => onB c fun b => ifB b (REbind (noExc (ge σ2 m3)) fun y m4 => pushD D' y m4) (.ok () m3)
theorem lc_in {gt : W → Sl → M → RE Sl} {gf ge : Sl → M → RE W} {own : List Nat} {σ : L2.St} {σ' : Sl} {v : Iv} {J : L2.It} {D' : Ad} {D : Addr} {Nx : Hp → Prop} {k0 : Nat} (s : SimS K C ι1 H1 σ' σ) (S1 : SimH K C ι1 m1 H1) (hD : ι1 D' = some D) (hJ : IvOk K C ι1 H1 v J)
    (p : PostE (fun (_ : Unit) m3 => ∀ ι3 H3, SimH K C ι3 m3 H3 → Le ι1 ι3 → Tk K H1 H3 → Nx H3) (walk v (turnsW gt gf ge own σ' D') k0 0 m1)) :
    ∃ Wv : Nat → Nat → Hp → Prop, (∃ m, Wv 0 m H1) ∧ ∀ i m H, Wv i m H → (J.stop i H ∧ Nx H) ∨ (J.go i H ∧ ∃ Nx' : Hp → Prop, (∀ H', Nx' H' → ∃ m', m' < m ∧ Wv (i + 1) m' H') ∧ ∀ x H', J.yld i H x H' → tGt K C own gt x (wipe σ own) H' fun σ2 H2 => wipe σ2 own = wipe σ own ∧ tT K C gf σ2 H2 fun b H3 =>
      if b = true then tG K C ge σ2 H3 fun y H4 => ∃ acc, H4 D = some (.lst acc) ∧ acc.length < sizeLine ∧ Nx' (upd H4 D (.lst (acc ++ [y]))) else Nx' H3) := by
  generalize hf : turnsW gt gf ge own σ' D' = f at p
  refine ⟨fun i k H' => ∃ ι2 m2, Le ι1 ι2 ∧ Tk K H1 H' ∧ SimH K C ι2 m2 H' ∧ PostE (fun (_ : Unit) m3 => ∀ ι3 H3, SimH K C ι3 m3 H3 → Le ι2 ι3 → Tk K H' H3 → Nx H3) (walk v f k i m2),
    ⟨k0, ι1, m1, Le.refl _, Tk.refl _ _, S1, p⟩, ?_⟩
  rintro i k H' ⟨ι2, m2, l2, t2, S', p2⟩
  cases k with
  | zero => exact p2.elim
  | succ k =>
    have p2 : PostE _ (lift (v.at m2 i) fun o => Option.rec (.ok () m2) (fun w => REbind (f w m2) fun _ m1 => walk v f k (i + 1) m1) o) := p2
    obtain ⟨o, e, p2⟩ := PostE.lift p2
    cases o with
    | none => exact .inl ⟨hJ.stop ι2 H' m2 i l2 t2 S' e, p2 ι2 H' S' (Le.refl _) (Tk.refl _ _)⟩
    | some w =>
      obtain ⟨go, yl⟩ := hJ.item ι2 H' m2 i w l2 t2 S' e
      refine .inr ⟨go, fun H'' => ∃ m', m' < k + 1 ∧ _, fun H'' h => h, fun x H'' y => ?_⟩
      obtain ⟨S3, t3, r3⟩ := yl x H'' y
      have p2 : PostE _ (REbind (f w m2) fun _ m1 => walk v f k (i + 1) m1) := p2
      have p2 := PostE.bind p2
      rw [← hf] at p2
      have ss : SimS K C ι2 H'' (wipeW σ' own) (wipe σ own) := ((s.mono (t2.trans t3) l2).wipe own)
      refine ⟨ι2, wipeW σ' own, m2, w, ss, S3, r3, PostE.mono (fun σ1' m4 p4 ι4 H4 σ4 S4 l4 t4 s4 w4 => ⟨by rw [w4, wipe_wipe], ?_⟩) (PostE.noExc (PostE.bind p2))⟩
      refine turn_lc (D' := D') s4 S4 (l4 _ _ (l2 _ _ hD)) (PostE.mono (fun _ m5 p5 ι5 H5 S5 l5 t5 => ?_) p4)
      refine ⟨k, Nat.lt_succ_self k, ι5, m5, (l2.trans l4).trans l5, ((t2.trans t3).trans t4).trans t5, S5, ?_⟩
      rw [hf] at p5
      exact PostE.mono (fun _ m6 p6 ι6 H6 S6 l6 t6 => p6 ι6 H6 S6 ((l4.trans l5).trans l6) (((t3.trans t4).trans t5).trans t6)) p5
/-- the outer turn -/
def turnsW2 (gt : W → Sl → M → RE Sl) (gf : Sl → M → RE W) (own : List Nat) (gi1 : Sl → M → RE Iv) (gt1 : W → Sl → M → RE Sl) (gf1 ge : Sl → M → RE W) (own1 : List Nat) (σ' : Sl) (D' : Ad) : W → M → RE Unit := fun w m => REbind (noExc (gt w (wipeW σ' own) m)) fun σ2 m2 => REbind (noExc (gf σ2 m2)) fun c m3 => onB c fun b =>
  ifB b (REbind (noExc (gi1 σ2 m3)) fun v m4 => walk v (turnsW gt1 gf1 ge own1 σ2 D') 2000 0 m4) (.ok () m3)
theorem lc2_ok {gi gi1 : Sl → M → RE Iv} {gt gt1 : W → Sl → M → RE Sl} {gf gf1 ge : Sl → M → RE W} {own own1 : List Nat} {σ : L2.St}
    (h : tG K C (fun σ m => REbind (gi σ m) fun v m1 => REbind (walk v (turnsW2 gt gf own gi1 gt1 gf1 ge own1 σ m1.next) 2000 0 (m1.new (.lst []))) fun _ m2 => .ok (.ref m1.next) m2) σ H Q) :
    tLc2 (tIv K C gi) (tGt K C own gt) (tT K C gf) (tIv K C gi1) (tGt K C own1 gt1) (tT K C gf1) (tG K C ge) own own1 σ H Q := by
  obtain ⟨ι, σ', m, s, S, p⟩ := h
  refine ⟨ι, σ', m, s, S, PostE.mono (fun v m1 p1 ι1 H1 S1 l1 t1 J hJ => ?_) (PostE.bind p)⟩
  intro D hD
  have le0 : Le ι1 (ext ι1 m1.next D) := ext_le S1.none_next
  have S2 : SimH K C (ext ι1 m1.next D) (m1.new (.lst [])) (upd H1 D (.lst [])) := S1.new (o := .lst []) (u := .lst []) hD ⟨[], upd_same, .nil⟩
  generalize hf : turnsW2 gt gf own gi1 gt1 gf1 ge own1 σ' m1.next = f at p1
  refine ⟨fun i k H' => ∃ ι2 m2, Le (ext ι1 m1.next D) ι2 ∧ Tk K H1 H' ∧ SimH K C ι2 m2 H' ∧ PostE (fun (_ : Unit) m3 => ∀ ι3 H3, SimH K C ι3 m3 H3 → Le ι2 ι3 → Tk K H' H3 → Q (.ref D) H3) (walk v f k i m2),
    ⟨2000, _, _, Le.refl _, tk_new hD, S2, PostE.mono (fun _ m3 p3 ι3 H3 S3 l3 t3 => p3 ι3 H3 (.ref D) S3 (l1.trans (le0.trans l3)) (t1.trans ((tk_new hD).trans t3)) (.ref (l3 _ _ ext_same))) (PostE.bind p1)⟩, ?_⟩
  rintro i k H' ⟨ι2, m2, l2, t2, S', p2⟩
  cases k with
  | zero => exact p2.elim
  | succ k =>
    have p2 : PostE _ (lift (v.at m2 i) fun o => Option.rec (.ok () m2) (fun w => REbind (f w m2) fun _ m1 => walk v f k (i + 1) m1) o) := p2
    obtain ⟨o, e, p2⟩ := PostE.lift p2
    cases o with
    | none => exact .inl ⟨hJ.stop ι2 H' m2 i (le0.trans l2) t2 S' e, p2 ι2 H' S' (Le.refl _) (Tk.refl _ _)⟩
    | some w =>
      obtain ⟨go, yl⟩ := hJ.item ι2 H' m2 i w (le0.trans l2) t2 S' e
      refine .inr ⟨go, fun H'' => ∃ m', m' < k + 1 ∧ _, fun H'' h => h, fun x H'' y => ?_⟩
      obtain ⟨S3, t3, r3⟩ := yl x H'' y
      have p2 : PostE _ (REbind (f w m2) fun _ m1 => walk v f k (i + 1) m1) := p2
      have p2 := PostE.bind p2
      rw [← hf] at p2
      have ss : SimS K C ι2 H'' (wipeW σ' own) (wipe σ own) := ((s.mono ((t1.trans t2).trans t3) (l1.trans (le0.trans l2))).wipe own)
      refine ⟨ι2, wipeW σ' own, m2, w, ss, S3, r3, PostE.mono (fun σ1' m4 p4 ι4 H4 σ4 S4 l4 t4 s4 w4 => ⟨by rw [w4, wipe_wipe], ?_⟩) (PostE.noExc (PostE.bind p2))⟩
      have hD4 : ι4 m1.next = some D := l4 _ _ (l2 _ _ ext_same)
      refine ⟨ι4, σ1', m4, s4, S4, PostE.mono (fun c m5 p5 => ?_) (PostE.noExc (PostE.bind p4))⟩
      obtain ⟨bb, e5, p5⟩ := onB_inv p5
      refine ⟨bb, e5, fun ι5 H5 S5 l5 t5 => ?_⟩
      have fin : ∀ {m6 : M} {ι6 : Im} {H6 : Hp}, SimH K C ι6 m6 H6 → Le ι4 ι6 → Tk K H4 H6 → PostE (fun (_ : Unit) m3 => ∀ ι3 H3, SimH K C ι3 m3 H3 → Le ι2 ι3 → Tk K H' H3 → Q (.ref D) H3) (walk v f k (i + 1) m6) →
          ∃ m', m' < k + 1 ∧ ∃ ι2 m2, Le (ext ι1 m1.next D) ι2 ∧ Tk K H1 H6 ∧ SimH K C ι2 m2 H6 ∧ PostE (fun (_ : Unit) m3 => ∀ ι3 H3, SimH K C ι3 m3 H3 → Le ι2 ι3 → Tk K H6 H3 → Q (.ref D) H3) (walk v f m' (i + 1) m2) := fun {m6 ι6 H6} S6 l6 t6 p6 =>
        ⟨k, Nat.lt_succ_self k, ι6, m6, (l2.trans l4).trans l6, ((t2.trans t3).trans t4).trans t6, S6, PostE.mono (fun _ m7 p7 ι7 H7 S7 l7 t7 => p7 ι7 H7 S7 ((l4.trans l6).trans l7) (((t3.trans t4).trans t6).trans t7)) p6⟩
      rw [hf] at p5
      cases bb with
      | false =>
        dsimp only
        rw [if_neg (by decide)]; exact fin S5 l5 t5 p5
      | true =>
        dsimp only
        rw [if_pos rfl]
        have p5 : PostE (fun (_ : Unit) m6 => PostE (fun (_ : Unit) m3 => ∀ ι3 H3, SimH K C ι3 m3 H3 → Le ι2 ι3 → Tk K H' H3 → Q (.ref D) H3) (walk v f k (i + 1) m6)) (REbind (noExc (gi1 σ1' m5)) fun v m4 => walk v (turnsW gt1 gf1 ge own1 σ1' m1.next) 2000 0 m4) := p5
        refine ⟨ι5, σ1', m5, s4.mono t5 l5, S5, PostE.mono (fun v1 m6 p6 ι6 H6 S6 l6 t6 J1 hJ1 => ?_) (PostE.noExc (PostE.bind p5))⟩
        exact lc_in ((s4.mono t5 l5).mono t6 l6) S6 (l6 _ _ (l5 _ _ hD4)) hJ1 (PostE.mono (fun _ m7 p7 ι7 H7 S7 l7 t7 => fin S7 ((l5.trans l6).trans l7) ((t5.trans t6).trans t7) p7) p6)
theorem snd_lc2 {e tg iter tg1 iter1 : Expr} {ifs ifs1 : List Expr} {scope : Scope} {own : List (Str × Nat)} {own1 : List Nat} {gi gi1 : Sl → M → RE Iv} {gt gt1 : W → Sl → M → RE Sl} {gf gf1 ge : Sl → M → RE W} {ts ts1 : List Nat} (hc : X.calm = true) (hN : X.N.Nodup) (hi : SndI X C tg iter gi) (ok : BlkOk X.N X.env.scope scope own)
    (hv : ∀ i ∈ own1, i ∈ own.map (·.2)) (hts : ∀ i ∈ ts, i ∈ own.map (·.2)) (hts1 : ∀ i ∈ ts1, i ∈ own1)
    (hg : ∀ (s : Shared) (H : Hp) (c : Addr) (cl : List (Str × Addr)) (fp : List Addr), SndG (X.blk s H scope (compEnvC scope cl c X.env) fp) C tg ts gt) (ht : ∀ (s : Shared) (H : Hp) (c : Addr) (cl : List (Str × Addr)) (fp : List Addr), SndT (X.blk s H scope (compEnvC scope cl c X.env) fp) C ifs gf)
    (hi1 : ∀ (s : Shared) (H : Hp) (c : Addr) (cl : List (Str × Addr)) (fp : List Addr), SndI (X.blk s H scope (compEnvC scope cl c X.env) fp) C tg1 iter1 gi1)
    (hg1 : ∀ (s : Shared) (H : Hp) (c : Addr) (cl : List (Str × Addr)) (fp : List Addr), SndG (X.blk s H scope (compEnvC scope cl c X.env) fp) C tg1 ts1 gt1) (ht1 : ∀ (s : Shared) (H : Hp) (c : Addr) (cl : List (Str × Addr)) (fp : List Addr), SndT (X.blk s H scope (compEnvC scope cl c X.env) fp) C ifs1 gf1)
    (he : ∀ (s : Shared) (H : Hp) (c : Addr) (cl : List (Str × Addr)) (fp : List Addr), Snd (X.blk s H scope (compEnvC scope cl c X.env) fp) C e ge) :
    Snd X C (.ListComp e [⟨tg, iter, ifs, 0⟩, ⟨tg1, iter1, ifs1, 0⟩] scope pos) (fun σ m => REbind (gi σ m) fun v m1 => REbind (walk v (turnsW2 gt gf (own.map (·.2)) gi1 gt1 gf1 ge own1 σ m1.next) 2000 0 (m1.new (.lst []))) fun _ m2 => .ok (.ref m1.next) m2) :=
  Snd.val ⟨fun _ _ => rfl, fun _ _ => rfl, fun _ _ => rfl, fun op => by cases op <;> rfl, fun _ _ _ => rfl, fun _ _ _ _ => rfl⟩ ((pe_lc2 hc hN hi.pi ok hv (fun s H c cl fp => (hg s H c cl fp).own hts) (fun s H c cl fp => (ht s H c cl fp).pt) (fun s H c cl fp => (hi1 s H c cl fp).pi) (fun s H c cl fp => (hg1 s H c cl fp).own hts1) (fun s H c cl fp => (ht1 s H c cl fp).pt) (fun s H c cl fp => (he s H c cl fp).pe) (fun x => hi.fold X.env x) (fun env x => (hi1 X.s_0 X.H_0 0 [] []).fold env x)).mono fun σ H Q h => lc2_ok h) fun _ => rfl
theorem ps_lc2 {i : Nat} {y : Str} {py spos : Pos} {e tg iter tg1 iter1 : Expr} {ifs ifs1 : List Expr} {scope : Scope} {own : List (Str × Nat)} {own1 : List Nat} {gi gi1 : Sl → M → RE Iv} {gt gt1 : W → Sl → M → RE Sl} {gf gf1 ge : Sl → M → RE W} {ts ts1 : List Nat} (hc : X.calm = true) (hN : X.N.Nodup) (hy : X.N[i]? = some y) (hyl : X.env.scope.names.lookup y = some .local)
    (hsw : swapsWith (.ListComp e [⟨tg, iter, ifs, 0⟩, ⟨tg1, iter1, ifs1, 0⟩] scope pos) (some (.Name y py)) spos.line X.env = pure true) (hi : SndI X C tg iter gi) (ok : BlkOk X.N X.env.scope scope own)
    (hv : ∀ i ∈ own1, i ∈ own.map (·.2)) (hts : ∀ i ∈ ts, i ∈ own.map (·.2)) (hts1 : ∀ i ∈ ts1, i ∈ own1)
    (hg : ∀ (s : Shared) (H : Hp) (c : Addr) (cl : List (Str × Addr)) (fp : List Addr), SndG (X.blk s H scope (compEnvC scope cl c X.env) fp) C tg ts gt) (ht : ∀ (s : Shared) (H : Hp) (c : Addr) (cl : List (Str × Addr)) (fp : List Addr), SndT (X.blk s H scope (compEnvC scope cl c X.env) fp) C ifs gf)
    (hi1 : ∀ (s : Shared) (H : Hp) (c : Addr) (cl : List (Str × Addr)) (fp : List Addr), SndI (X.blk s H scope (compEnvC scope cl c X.env) fp) C tg1 iter1 gi1)
    (hg1 : ∀ (s : Shared) (H : Hp) (c : Addr) (cl : List (Str × Addr)) (fp : List Addr), SndG (X.blk s H scope (compEnvC scope cl c X.env) fp) C tg1 ts1 gt1) (ht1 : ∀ (s : Shared) (H : Hp) (c : Addr) (cl : List (Str × Addr)) (fp : List Addr), SndT (X.blk s H scope (compEnvC scope cl c X.env) fp) C ifs1 gf1)
    (he : ∀ (s : Shared) (H : Hp) (c : Addr) (cl : List (Str × Addr)) (fp : List Addr), Snd (X.blk s H scope (compEnvC scope cl c X.env) fp) C e ge) :
    PS X (.Assign [.Name y py] (.ListComp e [⟨tg, iter, ifs, 0⟩, ⟨tg1, iter1, ifs1, 0⟩] scope pos) spos) (tAsg (tG X.K C (fun σ m => REbind (gi σ m) fun v m1 => REbind (walk v (turnsW2 gt gf (own.map (·.2)) gi1 gt1 gf1 ge own1 σ m1.next) 2000 0 (m1.new (.lst []))) fun _ m2 => .ok (.ref m1.next) m2)) (gName i)) :=
  (ps_setLc2 hc hN hy hyl hsw hi.pi ok hv (fun s H c cl fp => (hg s H c cl fp).own hts) (fun s H c cl fp => (ht s H c cl fp).pt) (fun s H c cl fp => (hi1 s H c cl fp).pi) (fun s H c cl fp => (hg1 s H c cl fp).own hts1) (fun s H c cl fp => (ht1 s H c cl fp).pt) (fun s H c cl fp => (he s H c cl fp).pe) (fun x => hi.fold X.env x) (fun env x => (hi1 X.s_0 X.H_0 0 [] []).fold env x)).mono fun D σ H h => lc2_ok (Q := fun x H1 => gName i x σ H1 D.nx) h
end
end
end Jw

/-! Displays with stars; xs.remove(y). -/
namespace Jw
open PySem PySem.Spec PyProof.Rows L2
noncomputable section
section
variable {X : Cx} {C : Cn} {K : PySem.W.Frag} {ι : Im} {H : Hp} {m : M} {Q : VK} {Γ : Pg} {a b : Expr} {ga gb : Sl → M → RE W} {pos p : Pos}
/-- the items of a display -/
structure SndP (X : Cx) (C : Cn) (es : List Expr) (g : Sl → M → RE (List W)) : Prop where
  pa : PA X es (tGs X.K C g)
theorem sndp_nil : SndP X C [] (fun _ m => .ok [] m) := ⟨snda_nil.pa⟩
theorem sndp_one {es : List Expr} {gs : Sl → M → RE (List W)} (ha : Snd X C a ga) (hr : SndP X C es gs) : SndP X C (a :: es) (fun σ m => REbind (ga σ m) fun w m1 => ifB false (lift (seqI m1 w) fun zs => REbind (gs σ m1) fun ws m2 => .ok (zs ++ ws) m2) (REbind (gs σ m1) fun ws m2 => .ok (w :: ws) m2)) :=
  ⟨(pa_cons ha.pe hr.pa (ha.nice.star es X.env)).mono fun σ H Q ⟨ι, σ', m, s, S, p⟩ => tG_bind s S p fun ι1 H1 w v m1 l1 t1 s1 S1 r1 p1 =>
    tGs_bind s1 S1 p1 fun ι2 H2 ws vs m2 l2 t2 s2 S2 r2 p2 => p2 ι2 H2 _ S2 (l1.trans l2) (t1.trans t2) (.cons (r1.mono t2 l2) r2)⟩
theorem sndp_star {es : List Expr} {gs : Sl → M → RE (List W)} (ha : Snd X C a ga) (hr : SndP X C es gs) : SndP X C (.Starred a p :: es) (fun σ m => REbind (ga σ m) fun w m1 => ifB true (lift (seqI m1 w) fun zs => REbind (gs σ m1) fun ws m2 => .ok (zs ++ ws) m2) (REbind (gs σ m1) fun ws m2 => .ok (w :: ws) m2)) :=
  ⟨(StX.pa_star ha.pe hr.pa rfl).mono fun σ H Q ⟨ι, σ', m, s, S, p⟩ => tG_bind s S p fun ι1 H1 w v m1 l1 t1 s1 S1 r1 p1 => by
    obtain ⟨zs, e, p1⟩ := PostE.lift p1
    obtain ⟨a', vs, rfl, rs, k⟩ := seqI_inv S1 r1 e
    have sq : SqT X.K H1 a' vs ∨ SqL X.K H1 a' vs := by
      rcases k with ⟨k, _⟩ | ⟨k, _⟩
      · exact .inr (.inl (.inl k))
      · exact .inl (SqT.of k)
    refine ⟨a', vs, rfl, sq, ?_⟩
    exact tGs_bind s1 S1 p1 fun ι2 H2 ws us m2 l2 t2 s2 S2 r2 p2 => p2 ι2 H2 _ S2 (l1.trans l2) (t1.trans t2) ((rs.mono t2 l2).append r2)⟩
theorem snd_lstS {es : List Expr} {gs : Sl → M → RE (List W)} (h : SndP X C es gs) : Snd X C (.List es pos) (fun σ m => REbind (gs σ m) fun ws m1 => newL ws m1) :=
  Snd.val ⟨fun _ _ => rfl, fun _ _ => rfl, fun _ _ => rfl, fun op => by cases op <;> rfl, fun _ _ _ => rfl, fun _ _ _ _ => rfl⟩ ((pe_lst h.pa).mono fun σ H Q ⟨ι, σ', m, s, S, p⟩ =>
    tGs_bind s S p fun ι1 H1 ws vs m1 l1 t1 s1 S1 r1 p1 => post_newL S1 r1 (PostE.mono (fun a m => QV.base l1 t1) p1)) fun _ => rfl
theorem snd_tupS {es : List Expr} {gs : Sl → M → RE (List W)} {x1} (h : SndP X C es gs) : Snd X C (.Tuple es x1 pos) (fun σ m => REbind (gs σ m) fun ws m1 => newT ws m1) :=
  Snd.val ⟨fun _ _ => rfl, fun _ _ => rfl, fun _ _ => rfl, fun op => by cases op <;> rfl, fun _ _ _ => rfl, fun _ _ _ _ => rfl⟩ ((pe_tup h.pa).mono fun σ H Q ⟨ι, σ', m, s, S, p⟩ =>
    tGs_bind s S p fun ι1 H1 ws vs m1 l1 t1 s1 S1 r1 p1 => by
      obtain ⟨z, q1, q2⟩ := post_newT S1 r1 (PostE.mono (fun a m => QV.base l1 t1) p1)
      exact ⟨z, q2⟩) fun _ => rfl
/-! ### remove -/
theorem idxW_ok {lo hi : Int} (h1 : lo ≤ C.x) (h2 : C.x ≤ hi) {x : W} (hx : dtN m 12 x = true) : ∀ {xs : List W} {i j : Nat}, allL (dtN m 12) xs = true → idxW lo hi m x i xs = .ok j → ∃ k, j = i + k ∧ k < xs.length ∧ (∀ d, (xs.map (dat C.x m 12))[k]? = some d → PyData.eqv d (dat C.x m 12 x) = true) ∧ ∀ q, q < k → ∀ d, (xs.map (dat C.x m 12))[q]? = some d → PyData.eqv d (dat C.x m 12 x) = false
  | [], i, j, _, h => by cases h
  | y :: ys, i, j, hl, h => by
    obtain ⟨hy, hys⟩ := allL_cons hl
    have h' : exIf (eqN lo hi m 12 y x) (.ok i) (idxW lo hi m x (i + 1) ys) = .ok j := h
    rcases exIf_ok h' with ⟨e, q⟩ | ⟨e, q⟩
    · cases q
      refine ⟨0, rfl, by simp, fun d hd => ?_, fun q hq => absurd hq (Nat.not_lt_zero _)⟩
      cases (show some (dat C.x m 12 y) = some d from hd)
      exact eqN_dat h1 h2 12 12 y x true hy hx e
    · obtain ⟨k, e1, e2, e3, e4⟩ := idxW_ok h1 h2 hx hys q
      refine ⟨k + 1, by omega, by rw [List.length_cons]; omega, fun d hd => e3 d (by simpa using hd), fun q hq d hd => ?_⟩
      cases q with
      | zero =>
        cases (show some (dat C.x m 12 y) = some d from hd)
        exact eqN_dat h1 h2 12 12 y x false hy hx e
      | succ q => exact e4 q (by omega) d (by simpa using hd)
theorem remove_ok (R : Rng Γ C) (hu : X.A.units + 64 < cLine) : MtR X "list.remove" (rM2 X.K C (rRemove Γ)) := by
  intro pins s σ H x vs v us Q I rx rv ⟨ι, m, w, u, y, e, S, r, r2, p⟩
  subst e
  obtain ⟨n, xs, rfl, hm, p⟩ := getL_inv p
  obtain ⟨hb, p⟩ := PostE.ifF p
  rw [Bool.and_eq_true] at hb
  obtain ⟨j, ej, p⟩ := PostE.lift p
  obtain ⟨k, e0, hk, hhit, hno⟩ := idxW_ok (C := C) R.lo R.hi hb.1 hb.2 ej
  have e0 : j = k := by omega
  subst e0
  cases r with
  | ref hn =>
    rename_i l
    obtain ⟨ws, f2, rs⟩ := lst_at S hn hm
    cases rx
    obtain ⟨uy, rfl, ry⟩ := rv.one
    obtain ⟨z, its, nn, r3, hl, eo⟩ := I.lstM f2
    obtain ⟨d1, p1, z1⟩ := dt_dp S 12 _ _ hb.1 r2
    obtain ⟨as, q1⟩ := Dp.reads I _ _ _ d1 ry
    obtain ⟨dl, pl, zl⟩ := dt_all S hb.2 rs
    obtain ⟨bs, q2⟩ := Dp.readsAll I _ _ _ dl r3
    have hmap := PySem.SeqAt.readsAll_map_plain _ _ _ pl q2
    have hil : its.length = xs.length := by rw [← hl, ← rs.length]
    have jl : j < its.toArray.size := by rw [List.size_toArray]; omega
    have at_ : ∀ q (hq : q < its.toArray.size), (xs.map (dat C.x m 12))[q]? = some (PySem.SeqAt.readOf s.heap its.toArray[q]) := fun q hq => by
      have hq' : q < its.length := by simpa using hq
      rw [← hmap, List.getElem?_map, List.getElem?_eq_getElem hq']
      simp
    refine call_meets PySem.F.slot_list_remove ⟨_, eo, rfl⟩ PySem.F.entry_list_remove (PySem.F.args_list_remove_2 _ _)
      (PySem.SeqAt.list_removeAt l its.toArray nn _ _ uy (fun y => PyData.eqv (PySem.SeqAt.readOf s.heap y) (dat C.x m 12 u)) j jl (hhit _ (at_ j jl)) (fun q hq hqj => hno q hqj _ (at_ q hq)) (by rw [List.size_toArray, ← hl]; exact z)) ⟨eo, PySem.SeqAt.items_plain (show ReadsAll s.heap its.toArray.toList _ _ from q2) q1 pl p1 (room13 hu zl), ?_⟩
    have rr := r3.eraseIdx j
    obtain ⟨S', t'⟩ := lst_put S hn hm f2 (rs.eraseIdx j)
    refine ⟨.non, _, I.lset (its' := its.eraseIdx j) (t' := s.toks) f2 eo ?_ rr ?_, rfl, p ι _ .non S' (Le.refl _) t' .non⟩
    · show its.toArray.eraseIdxIfInBounds j = (its.eraseIdx j).toArray
      rw [List.eraseIdxIfInBounds_toArray]
    · exact Nat.le_trans (List.length_eraseIdx_le ..) z
theorem idx_small {n j : Nat} (h : n ≤ sizeLine) (hj : j < n) : (j : Int) < 2 ^ 63 - 1 := by
  have e : sizeLine < 2 ^ 63 - 1 := by decide
  omega
theorem index_ok (R : Rng Γ C) (hu : X.A.units + 64 < cLine) : MtR X "list.index" (rM2 X.K C (rIndex Γ)) := by
  intro pins s σ H x vs v us Q I rx rv ⟨ι, m, w, u, y, e, S, r, r2, p⟩
  subst e
  obtain ⟨n, xs, rfl, hm, p⟩ := getL_inv p
  obtain ⟨hb, p⟩ := PostE.ifF p
  rw [Bool.and_eq_true] at hb
  obtain ⟨j, ej, p⟩ := PostE.lift p
  obtain ⟨k, e0, hk, hhit, hno⟩ := idxW_ok (C := C) R.lo R.hi hb.1 hb.2 ej
  have e0 : j = k := by omega
  subst e0
  cases r with
  | ref hn =>
    rename_i l
    obtain ⟨ws, f2, rs⟩ := lst_at S hn hm
    cases rx
    obtain ⟨uy, rfl, ry⟩ := rv.one
    obtain ⟨z, its, nn, r3, hl, eo⟩ := I.lstM f2
    obtain ⟨d1, p1, z1⟩ := dt_dp S 12 _ _ hb.1 r2
    obtain ⟨as, q1⟩ := Dp.reads I _ _ _ d1 ry
    obtain ⟨dl, pl, zl⟩ := dt_all S hb.2 rs
    obtain ⟨bs, q2⟩ := Dp.readsAll I _ _ _ dl r3
    have hmap := PySem.SeqAt.readsAll_map_plain _ _ _ pl q2
    have hil : its.length = xs.length := by rw [← hl, ← rs.length]
    have jl : j < its.toArray.size := by rw [List.size_toArray]; omega
    have at_ : ∀ q (hq : q < its.toArray.size), (xs.map (dat C.x m 12))[q]? = some (PySem.SeqAt.readOf s.heap its.toArray[q]) := fun q hq => by
      have hq' : q < its.length := by simpa using hq
      rw [← hmap, List.getElem?_map, List.getElem?_eq_getElem hq']
      simp
    refine call_meets PySem.F.slot_list_index ⟨_, eo, rfl⟩ PySem.F.entry_list_index (PySem.F.args_list_index_2 _ _)
      (PySem.SeqAt.list_indexAt l its.toArray nn _ _ uy (fun y => PyData.eqv (PySem.SeqAt.readOf s.heap y) (dat C.x m 12 u)) j jl (idx_small z (show j < ws.length by rw [← rs.length]; exact hk)) (hhit _ (at_ j jl)) (fun q hq hqj => hno q hqj _ (at_ q hq))) ⟨eo, PySem.SeqAt.items_plain (show ReadsAll s.heap its.toArray.toList _ _ from q2) q1 pl p1 (room13 hu zl), ?_⟩
    exact ⟨.int j, H, I.tok _, ⟨_, rfl⟩, p ι _ (.int j) S (Le.refl _) (Tk.refl _ _) (.int j)⟩
theorem cntW_ok {lo hi : Int} (h1 : lo ≤ C.x) (h2 : C.x ≤ hi) {x : W} (hx : dtN m 12 x = true) : ∀ {xs : List W} {i j : Nat}, allL (dtN m 12) xs = true → cntW lo hi m x i xs = .ok j → j = i + (xs.map (dat C.x m 12)).countP fun d => PyData.eqv d (dat C.x m 12 x)
  | [], i, j, _, h => by cases h; rfl
  | y :: ys, i, j, hl, h => by
    obtain ⟨hy, hys⟩ := allL_cons hl
    have h' : exIf (eqN lo hi m 12 y x) (cntW lo hi m x (i + 1) ys) (cntW lo hi m x i ys) = .ok j := h
    rw [List.map_cons, List.countP_cons]
    rcases exIf_ok h' with ⟨e, q⟩ | ⟨e, q⟩
    · rw [eqN_dat h1 h2 12 12 y x true hy hx e, cntW_ok h1 h2 hx hys q, if_pos rfl]; omega
    · rw [eqN_dat h1 h2 12 12 y x false hy hx e, cntW_ok h1 h2 hx hys q, if_neg (by decide)]; rfl
theorem count_ok (R : Rng Γ C) (hu : X.A.units + 64 < cLine) : MtR X "list.count" (rM2 X.K C (rCount Γ)) := by
  intro pins s σ H x vs v us Q I rx rv ⟨ι, m, w, u, y, e, S, r, r2, p⟩
  subst e
  obtain ⟨n, xs, rfl, hm, p⟩ := getL_inv p
  obtain ⟨hb, p⟩ := PostE.ifF p
  rw [Bool.and_eq_true] at hb
  obtain ⟨j, ej, p⟩ := PostE.lift p
  have e0 := cntW_ok (C := C) R.lo R.hi hb.1 hb.2 ej
  cases r with
  | ref hn =>
    rename_i l
    obtain ⟨ws, f2, rs⟩ := lst_at S hn hm
    cases rx
    obtain ⟨uy, rfl, ry⟩ := rv.one
    obtain ⟨z, its, nn, r3, hl, eo⟩ := I.lstM f2
    obtain ⟨d1, p1, z1⟩ := dt_dp S 12 _ _ hb.1 r2
    obtain ⟨as, q1⟩ := Dp.reads I _ _ _ d1 ry
    obtain ⟨dl, pl, zl⟩ := dt_all S hb.2 rs
    obtain ⟨bs, q2⟩ := Dp.readsAll I _ _ _ dl r3
    have hmap := PySem.SeqAt.readsAll_map_plain _ _ _ pl q2
    refine call_meets PySem.F.slot_list_count ⟨_, eo, rfl⟩ PySem.F.entry_list_count (PySem.F.args_list_count_2 _ _)
      (PySem.SeqAt.list_countAt l its.toArray nn _ _ uy (fun y => PyData.eqv (PySem.SeqAt.readOf s.heap y) (dat C.x m 12 u))) ⟨eo, PySem.SeqAt.items_plain (show ReadsAll s.heap its.toArray.toList _ _ from q2) q1 pl p1 (room13 hu zl), ?_⟩
    have e1 : its.toArray.toList.countP (fun y => PyData.eqv (PySem.SeqAt.readOf s.heap y) (dat C.x m 12 u)) = j := by
      rw [e0, ← hmap, List.countP_map, Nat.zero_add]; rfl
    rw [e1]
    exact ⟨.int j, H, I.tok _, ⟨_, rfl⟩, p ι _ (.int j) S (Le.refl _) (Tk.refl _ _) (.int j)⟩
end
end
end Jw

/-! zip walked; xs.pop(i); list(d.values()); dict(d); f(). -/
namespace Jw
open PySem PySem.Spec PyProof.Rows L2
noncomputable section
section
variable {X : Cx} {C : Cn} {K : PySem.W.Frag} {ι : Im} {H : Hp} {m : M} {Q : VK} {Γ : Pg} {a b : Expr} {ga gb : Sl → M → RE W} {pos p apos cpos : Pos} {E : XK}
/-! ### zip -/
theorem pair2_fin (S : SimH K C ι m H) {T : Addr} {w u : W} {v y : V} (hp : H T = none) (q : RepV C (TT' K H) ι w v) (r : RepV C (TT' K H) ι u y) : SimH K C ι m (upd H T (.tup [v, y])) ∧ Tk K H (upd H T (.tup [v, y])) ∧ RepV C (TT' K (upd H T (.tup [v, y]))) ι (.tup [w, u]) (.ref T) :=
  ⟨simH_tup S hp, tk_new hp, .tup upd_same (.cons (q.mono (tk_new hp) (Le.refl ι)) (.cons (r.mono (tk_new hp) (Le.refl ι)) .nil))⟩
theorem zipAt_inv {v u : Iv} {i : Nat} {o : Option W} (h : (Iv.zip v u).at m i = .ok o) : ∃ x y, v.at m i = .ok x ∧ u.at m i = .ok y ∧ ((x = none ∨ y = none) ∧ o = none ∨ ∃ x' y', x = some x' ∧ y = some y' ∧ o = some (.tup [x', y'])) := by
  have h : exB (v.at m i) (fun x => exB (u.at m i) fun y => .ok (Option.rec none (fun x => Option.rec none (fun y => some (.tup [x, y])) y) x)) = (.ok o : Except Er (Option W)) := h
  cases e : v.at m i with
  | error z => rw [e] at h; cases h
  | ok x =>
    rw [e] at h
    have h : exB (u.at m i) (fun y => .ok (Option.rec none (fun x => Option.rec none (fun y => some (.tup [x, y])) y) x)) = (.ok o : Except Er (Option W)) := h
    cases e2 : u.at m i with
    | error z => rw [e2] at h; cases h
    | ok y =>
      rw [e2] at h
      refine ⟨x, y, rfl, rfl, ?_⟩
      cases x with
      | none => cases h; exact .inl ⟨.inl rfl, rfl⟩
      | some x =>
        cases y with
        | none => cases h; exact .inl ⟨.inr rfl, rfl⟩
        | some y => cases h; exact .inr ⟨x, y, rfl, rfl, rfl⟩
theorem at_tup {xs : List W} {i : Nat} {o : Option W} (h : (Iv.tup xs).at m i = .ok o) : xs[i]? = o := by
  have h : (Except.ok (nth xs i) : Except Er (Option W)) = .ok o := h
  injection h with h
  rw [nth_eq] at h; exact h
theorem iv_zipT {xs ys : List W} {vs us : List V} {p q : Addr} (ht : H p = some (.tup vs)) (rs : RepVs C (TT' K H) ι xs vs) (ht2 : H q = some (.tup us)) (rs2 : RepVs C (TT' K H) ι ys us) : IvOk K C ι H (.zip (.tup xs) (.tup ys)) (RZ.ItzT K p q) := by
  refine ⟨fun ι' H' m i l t S e => ?_, fun ι' H' m i w l t S e => ?_⟩
  · refine ⟨vs, us, SqT.of (t.tup p vs ht), SqT.of (t.tup q us ht2), ?_⟩
    obtain ⟨x, y, e1, e2, ⟨z, _⟩ | ⟨_, _, _, _, z⟩⟩ := zipAt_inv e
    · rcases z with rfl | rfl
      · exact .inl (by rw [← rs.length]; exact List.getElem?_eq_none_iff.mp (at_tup e1))
      · exact .inr (by rw [← rs2.length]; exact List.getElem?_eq_none_iff.mp (at_tup e2))
    · cases z
  · obtain ⟨x, y, e1, e2, ⟨z, z2⟩ | ⟨x, y, rfl, rfl, z⟩⟩ := zipAt_inv e
    · cases z2
    · cases z
      obtain ⟨v, f1, q1⟩ := (rs.mono t l).get (at_tup e1)
      obtain ⟨u, f2, q2⟩ := (rs2.mono t l).get (at_tup e2)
      refine ⟨⟨vs, us, v, u, SqT.of (t.tup p vs ht), SqT.of (t.tup q us ht2), f1, f2⟩, fun x H2 y => ?_⟩
      obtain ⟨T, x', y', rfl, hT, rfl, g1, g2⟩ := y
      have h1 := g1 vs (SqT.of (t.tup p vs ht))
      have h2 := g2 us (SqT.of (t.tup q us ht2))
      rw [f1] at h1; cases h1
      rw [f2] at h2; cases h2
      exact pair2_fin S hT q1 q2
theorem at_lst {n : Ad} {i : Nat} {o : Option W} (h : (Iv.lst n).at m i = .ok o) : ∃ xs, m.get n = some (.lst xs) ∧ xs[i]? = o := by
  obtain ⟨xs, e1, e2⟩ := atL_inv (show atL n (fun xs => nth xs i) m = .ok o from h)
  rw [nth_eq] at e2
  exact ⟨xs, e1, e2⟩
theorem iv_zipL {n k : Ad} {a b : Addr} (hn : ι n = some a) (hk : ι k = some b) : IvOk K C ι H (.zip (.lst n) (.lst k)) (L2.Itz K a b) := by
  refine ⟨fun ι' H' m i l t S e => ?_, fun ι' H' m i w l t S e => ?_⟩
  · obtain ⟨x, y, e1, e2, ⟨z, _⟩ | ⟨_, _, _, _, z⟩⟩ := zipAt_inv e
    · obtain ⟨xs, g1, g2⟩ := at_lst e1
      obtain ⟨ys, k1, k2⟩ := at_lst e2
      obtain ⟨vs, f1, rs⟩ := lst_at S (l n a hn) g1
      obtain ⟨us, f2, rs2⟩ := lst_at S (l k b hk) k1
      refine ⟨vs, us, SqL.of f1, SqL.of f2, ?_⟩
      rcases z with rfl | rfl
      · exact .inl (by rw [← rs.length]; exact List.getElem?_eq_none_iff.mp g2)
      · exact .inr (by rw [← rs2.length]; exact List.getElem?_eq_none_iff.mp k2)
    · cases z
  · obtain ⟨x, y, e1, e2, ⟨z, z2⟩ | ⟨x, y, rfl, rfl, z⟩⟩ := zipAt_inv e
    · cases z2
    · cases z
      obtain ⟨xs, g1, g2⟩ := at_lst e1
      obtain ⟨ys, k1, k2⟩ := at_lst e2
      obtain ⟨vs, h1, rs⟩ := lst_at S (l n a hn) g1
      obtain ⟨us, h2, rs2⟩ := lst_at S (l k b hk) k1
      obtain ⟨v, f1, q1⟩ := rs.get g2
      obtain ⟨u, f2, q2⟩ := rs2.get k2
      refine ⟨⟨vs, us, v, u, SqL.of h1, SqL.of h2, f1, f2⟩, fun x H2 y => ?_⟩
      obtain ⟨T, x', y', rfl, hT, rfl, j1, j2⟩ := y
      have j1 := j1 vs (SqL.of h1)
      have j2 := j2 us (SqL.of h2)
      rw [f1] at j1; cases j1
      rw [f2] at j2; cases j2
      exact pair2_fin S hT q1 q2
theorem seqIv_inv {w : W} {v : V} {iv : Iv} (S : SimH K C ι m H) (r : RepV C (TT' K H) ι w v) (h : seqIv m w = .ok iv) : ∃ a, v = .ref a ∧ ((∃ n xs vs, w = .ref n ∧ iv = .lst n ∧ ι n = some a ∧ H a = some (.lst vs) ∧ m.get n = some (.lst xs)) ∨ ∃ xs vs, iv = .tup xs ∧ H a = some (.tup vs) ∧ RepVs C (TT' K H) ι xs vs) := by
  cases r with
  | tup ht rs => cases h; exact ⟨_, rfl, .inr ⟨_, _, rfl, ht, rs⟩⟩
  | ref hn =>
    rename_i n a
    unfold seqIv at h
    dsimp only at h
    split at h
    · rename_i xs e
      cases h
      obtain ⟨vs, f, rs⟩ := lst_at S hn e
      exact ⟨a, rfl, .inl ⟨n, xs, vs, rfl, rfl, hn, f, e⟩⟩
    · cases h
  | _ => cases h
theorem sndi_zip {tpos : Pos} {elts : List Expr} {kk : Nat} (hg : Gl X "zip") (hm : X.mg "zip" = none) (ha : Snd X C a ga) (hb : Snd X C b gb) :
    SndI X C (.Tuple elts kk tpos) (.Call (.Name "zip" p) [a, b] [] pos) (fun σ m => REbind (ga σ m) fun x m1 => REbind (gb σ m1) fun y m2 => lift (seqIv m2 x) fun v => lift (seqIv m2 y) fun u => sameI v u m2) :=
  ⟨fun _ _ => rfl, (RZ.pi_zipA hg hm (pa_cons ha.pe (pa_cons hb.pe pa_nil (hb.nice.star _ _)) (ha.nice.star _ _)) (ha.nice.star _ _) (by rw [hb.nice.star]; rfl)).mono fun σ H R ⟨ι, σ', m, s, S, p⟩ => by
    refine tG_bind s S p fun ι1 H1 w v m1 l1 t1 s1 S1 r1 p1 => ?_
    refine tG_bind s1 S1 p1 fun ι2 H2 w2 v2 m2 l2 t2 s2 S2 r2 p2 => ?_
    obtain ⟨iv, e, p2⟩ := PostE.lift p2
    obtain ⟨iu, e2, p2⟩ := PostE.lift p2
    obtain ⟨a1, rfl, g1⟩ := seqIv_inv S2 (r1.mono t2 l2) e
    obtain ⟨a2, rfl, g2⟩ := seqIv_inv S2 r2 e2
    rcases g1 with ⟨n1, xs1, vs1, _, rfl, i1, h1, _⟩ | ⟨xs1, vs1, rfl, h1, q1⟩ <;> rcases g2 with ⟨n2, xs2, vs2, _, rfl, i2, h2, _⟩ | ⟨xs2, vs2, rfl, h2, q2⟩
    · exact ⟨a1, a2, vs1, vs2, rfl, .inl ⟨SqL.of h1, SqL.of h2, p2 ι2 H2 S2 (l1.trans l2) (t1.trans t2) _ (iv_zipL i1 i2)⟩⟩
    · exact p2.elim
    · exact p2.elim
    · exact ⟨a1, a2, vs1, vs2, rfl, .inr ⟨SqT.of h1, SqT.of h2, p2 ι2 H2 S2 (l1.trans l2) (t1.trans t2) _ (iv_zipT h1 q1 h2 q2)⟩⟩⟩
/-! ### xs.pop(i) -/
theorem popAt_ok : MtR X "list.pop" (rM2 X.K C (rPopAt Γ)) := by
  intro pins s σ H x vs v us Q I rx rv ⟨ι, m, w, u, y, e, S, r, r2, p⟩
  subst e
  obtain ⟨n, xs, rfl, hm, p⟩ := getL_inv p
  split at p
  · rename_i j _
    obtain ⟨hj, p⟩ := PostE.ifF p
    have hj := Nat.blt_eq.mp hj
    obtain ⟨w, e, p⟩ := PostE.liftO p
    rw [nth_eq] at e
    obtain rfl := r2.int_inv
    cases r with
    | ref hn =>
      obtain ⟨vs, f2, rs⟩ := lst_at S hn hm
      obtain ⟨z, e1, q⟩ := rs.get e
      obtain ⟨S', t'⟩ := lst_put S hn hm f2 (rs.eraseIdx j)
      have hl : j < vs.length := (List.getElem?_eq_some_iff.mp e1).1
      refine mt_popAt pins s σ H _ _ v us Q I rx rv ⟨_, vs, Int.ofNat j, j, z, rfl, rfl, f2, by show -(2 ^ 63) ≤ (j : Int); omega, by show (j : Int) < 2 ^ 63; omega, ?_, e1, p ι _ z S' (Le.refl _) t' (q.mono t' (Le.refl _))⟩
      rw [seqIndex_of (show (0 : Int) ≤ Int.ofNat j from Int.natCast_nonneg _) (show (Int.ofNat j : Int) < (vs.length : Int) from Int.ofNat_lt.mpr hl)]; rfl
  · exact p.elim
/-! ### list(d.values()), dict(d) -/
def rValsK : V → List V → Hp → VK → Prop := fun x xs H Q => ∃ (a : Addr) (kvs : List (L2.Key × V)), x = .ref a ∧ xs = [] ∧ H a = some (.dK kvs) ∧ ∀ p, H p = none → Q (.ref p) (upd H p (viewO "dict_values" p a))
theorem mt_valsK : MtR X "dict.values" rValsK := by
  intro pins s σ H x xs v us Q I rx rxs h
  obtain ⟨a, kvs, rfl, rfl, ha, q⟩ := h
  cases rx
  cases rxs
  obtain ⟨z, hd, vs, rel, dd⟩ := dk_of I.hok ha
  obtain ⟨o, es, ep, ho, hc, hdat, _⟩ := dd
  refine callVals (es := es) (ep := ep) hd ⟨o, ho, hc, hdat⟩ ?_
  have hf : H s.heap.objs.size = none := I.hok.fresh (Nat.le_refl _)
  exact ⟨.ref s.heap.objs.size, upd H s.heap.objs.size (viewO "dict_values" s.heap.objs.size a), I.laid (t' := s.toks) (fun b u e => Heap.get?_push_of_some _ e) (Nat.le_refl _) (viewO_ok (Heap.get?_push_size _ rfl)), rfl, q _ hf⟩
theorem vals_at : ∀ {kvs : List (L2.Key × V)} {vs : List (L2.Key × Value)} {us : List Value}, L2.KV kvs vs → us.length = vs.length → (∀ (j : Nat) (v : Value), us[j]? = some v → ∃ k, vs[j]? = some (k, v)) → Vals (kvs.map (·.2)) us
  | _, _, [], .nil, _, _ => .nil
  | _, _, u :: us, .cons (a := x) (b := y) r t, hl, h => by
    obtain ⟨k, e⟩ := h 0 u rfl
    have e : y = (k, u) := Option.some.inj e
    subst e
    rw [List.map_cons]
    exact .cons r.2 (vals_at t (by simpa using hl) fun j v e => h (j + 1) v (by simpa using e))
  | _, _, _ :: _, .nil, hl, _ => by cases hl
  | _, _, [], .cons _ _, hl, _ => by cases hl
def rListV : List V → Hp → VK → Prop := fun xs H Q => ∃ (p a : Addr) (kvs : List (L2.Key × V)), xs = [.ref p] ∧ H p = some (viewO "dict_values" p a) ∧ H a = some (.dK kvs) ∧ ∀ l, H l = none → Q (.ref l) (upd H l (.lst (kvs.map (·.2))))
theorem cr_listV (hc : X.calm = true) : CallR X (.type "list") rListV := by
  intro pins s σ H xs us Q I rx h
  obtain ⟨p, a, kvs, rfl, hp, ha, q⟩ := h
  rw [Vals.ref1 rx]
  obtain ⟨z, lo, vs, rel, dd⟩ := dk_of I.hok ha
  obtain ⟨ep, hat⟩ := dd.dictAt
  have hv : s.heap.IsValuesView p a := ⟨_, (show ObjOk X.prog X.w H s.heap p (viewO "dict_values" p a) from I.hok p _ hp).1, rfl, rfl⟩
  refine PySem.W.kdl_call (PySem.W.kdl_values (knd := mixKind X.prog X.w) (kvs := vs) (ep := ep)) (I.ok.hd hc) ⟨hv, hat⟩ (by rw [← rel.length]; exact z) fun h' tk acc c' hk hD hacc => ?_
  have hv : Vals (kvs.map (·.2)) acc.toList := vals_at rel (by rw [Array.length_toList]; exact hacc.1) fun j v e => hacc.2 j v (by rw [← Array.getElem?_toList]; exact e)
  refine ⟨.ref s.heap.objs.size, upd H s.heap.objs.size (.lst (kvs.map (·.2))), I.laid (t' := tk) hk (Nat.le_refl _)
    (show ObjOk X.prog X.w _ _ _ (.lst (kvs.map (·.2))) from ⟨by rw [List.length_map]; exact z, acc.toList, c', hv, by rw [Array.toArray_toList]; exact hD⟩), rfl, q _ (I.hok.fresh (Nat.le_refl _))⟩
/-- list(o.values()) -/
theorem snd_values (hc : X.calm = true) (hg : Gl X "list") (hm : X.mg "list" = none) (hb : noBase a = true) (hline : (apos.endLine == cpos.line) = true) (ha : Snd X C a ga) :
    Snd X C (.Call (.Name "list" p) [.Call (.Attribute a "values" apos) [] [] cpos] [] pos) (fun σ m => REbind (ga σ m) fun x m1 => qValues Γ x m1) :=
  Snd.val ⟨fun _ _ => rfl, fun _ _ => rfl, fun _ _ => rfl, fun op => by cases op <;> rfl, fun _ _ _ => rfl, fun _ _ _ _ => rfl⟩
    ((pe_callTy (cr_listV hc) hg hm PyProof.Rows.boot_list (pa_cons (pe_bm0 PySem.F.plainAttrs_dict PySem.F.slot_dict_values PySem.F.type_dict_values mt_valsK ha.pe (noBase_ok hb) hline) pa_nil rfl) (by decide) (by decide) rfl rfl).mono fun σ H Q ⟨ι, σ', m, s, S, pp⟩ => by
      refine tG_bind s S pp fun ι1 H1 w v m1 l1 t1 s1 S1 r1 p1 => ?_
      obtain ⟨n, t, kvs, rfl, hm1, p1⟩ := getD_inv p1
      cases t with
      | true => exact p1.elim
      | false =>
      have p1 : PostE (QV X.K C ι H Q) (okL kvs (newL (kvs.map (·.2)) m1)) := p1
      obtain ⟨_, p1⟩ := PostE.okL p1
      cases r1 with
      | ref hn =>
        rename_i a1
        obtain ⟨a', e1, ks, h1, h2⟩ := S1.ob n _ hm1
        rw [hn] at e1; cases e1
        refine ⟨.inr (.inr (.inl ⟨rfl, .inl ⟨ks, h1⟩⟩)), _, ks, rfl, rfl, h1, fun q hq => ?_⟩
        have gr : ∀ b o, H1 b = some o → upd H1 q (viewO "dict_values" q a1) b = some o := fun b o e => by rw [upd_ne (ne_of_none e hq)]; exact e
        have tk : Tk X.K H1 (upd H1 q (viewO "dict_values" q a1)) := .ext gr
        refine ⟨q, a1, ks, rfl, upd_same, gr _ _ h1, ?_⟩
        exact (post_newL (simH_grow S1 gr) ((repK_vals h2).mono tk (Le.refl _)) (PostE.mono (fun a m => QV.base l1 (t1.trans tk)) p1)).2) fun _ => rfl
theorem dcopy_ok : CallR X (.type "dict") (rB X.K C (qDcopy Γ)) := by
  intro pins s σ H xs us Q I r ⟨ι, m, w, x, e, S, q, p⟩
  subst e
  obtain ⟨n, t, kvs, rfl, hm1, p⟩ := getD_inv p
  cases t with
  | true => exact p.elim
  | false =>
  have p : PostE (QV X.K C ι H Q) (.ok (.ref m.next) (m.new (.dict false kvs))) := p
  cases q with
  | ref hn =>
    rename_i a1
    obtain ⟨a', e1, ks, h1, h2⟩ := S.ob n _ hm1
    rw [hn] at e1; cases e1
    refine call_dictD pins s σ H _ us Q I r ⟨_, ks, rfl, .inl h1, fun q hq => ?_⟩
    have l : Le ι (ext ι m.next q) := ext_le S.none_next
    exact p _ _ _ (S.new (u := .dK ks) hq ⟨ks, upd_same, h2.mono (tk_new hq) l⟩) l (tk_new hq) (.ref ext_same)
/-! ### f() -/
theorem snd_call0 {k : Nat} {x : Str} {p : Pos} {f : Addr} {fd : FuncData} {ps : List Str} {gf : List W → M → RE W} (F : FnOk X.prog X.w X.K X.mg X.base (L2.CX X.prog X.w) k f fd ps (spF X.K C 0 gf)) (hr : Room k X.A) (hg : Gl X x) (hm : X.mg x = some (.ref f)) (hk : PySem.W.keepIn X.K (.ref f) = true) (hb : Binds X.K fd ps [])
    (hdb : (x == ("__debug__" : Str)) = false) :
    Snd X C (.Call (.Name x p) [] [] pos) (fun σ m => REbind (noExc (.ok [] m)) fun ws m1 => gf ws m1) :=
  Snd.val ⟨fun _ _ => rfl, fun _ _ => rfl, fun _ _ => rfl, fun op => by cases op <;> rfl, fun _ _ _ => rfl, fun _ _ _ _ => rfl⟩ ((pe_call0 F hr hg hm hk hb .nil (passes_call LamX.takes0 fun _ _ _ _ h => h) hdb).mono fun σ H Q ⟨ι, σ', m, s, S, p⟩ =>
    ⟨rfl, ι, m, [], S, .nil, PostE.toX p⟩) fun _ => rfl
theorem sndx_call0 {k : Nat} {x : Str} {p : Pos} {f : Addr} {fd : FuncData} {ps : List Str} {gf : List W → M → RE W} (F : FnOk X.prog X.w X.K X.mg X.base (L2.CX X.prog X.w) k f fd ps (spF X.K C 0 gf)) (hr : Room k X.A) (hg : Gl X x) (hm : X.mg x = some (.ref f)) (hk : PySem.W.keepIn X.K (.ref f) = true) (hb : Binds X.K fd ps [])
    (hdb : (x == ("__debug__" : Str)) = false) (tk : Takes X (fun cls d _ H => E cls d H)) :
    SndX E X C (.Call (.Name x p) [] [] pos) (fun σ m => REbind (noExc (.ok [] m)) fun ws m1 => gf ws m1) :=
  ⟨⟨fun _ _ => rfl, fun _ _ => rfl, fun _ _ => rfl, fun op => by cases op <;> rfl, fun _ _ _ => rfl, fun _ _ _ _ => rfl⟩, (pe_call0 F hr hg hm hk hb .nil (passes_call tk fun _ _ _ _ h => h) hdb).mono fun σ H Q ⟨ι, σ', m, s, S, p⟩ =>
    ⟨rfl, ι, m, [], S, .nil, p⟩⟩
/-! ### xs[::-1] -/
theorem snd_revL {k : Nat} {p1 p2 p3 : Pos} (ha : Snd X C a ga) : Snd X C (.Subscript a (.Slice none none (some (.UnaryOp .USub (.Constant (.int 1) k p1) p2)) p3) pos) (fun σ m => REbind (ga σ m) fun x m1 => qRevL Γ x m1) :=
  Snd.val ⟨fun _ _ => rfl, fun _ _ => rfl, fun _ _ => rfl, fun op => by cases op <;> rfl, fun _ _ _ => rfl, fun _ _ _ _ => rfl⟩ ((pe_revL ha.pe).mono fun σ H Q ⟨ι, σ', m, s, S, pp⟩ => by
    refine tG_bind s S pp fun ι1 H1 w v m1 l1 t1 s1 S1 r1 p1 => ?_
    obtain ⟨n, xs, rfl, hm1, p1⟩ := getL_inv p1
    cases r1 with
    | ref hn =>
      obtain ⟨vs, f, rs⟩ := lst_at S1 hn hm1
      exact ⟨_, vs, rfl, SqL.of f, (post_newL S1 rs.reverse (PostE.mono (fun a m => QV.base l1 t1) p1)).2⟩) fun _ => rfl
end
end
end Jw

set_option maxHeartbeats 4000000
/-! Exceptions of the program's classes: made, raised. -/
namespace Jw
open PySem PySem.Calls PySem.Spec PyProof.Rows L2
noncomputable section
/-! ### super().__init__(v); self.f = v -/
section
open PySem.W
variable {prog : Program} {w : World} {A : Around} {E : Value → Shared → Prop} {h : Heap} {g : Array GenState} {d : Drawn} {t : Nat} {os : OsState}
variable {nm q : Str} {C N : Addr} {bs bm : List Value} {hdct : Bool} {sn : List Str} {sub : List Value} {ab : Bool} {col : Option Bool} {dd : Option Addr} {k0 k1 k2 k3 k5 : Option Value}
/-- the bound ValueError.__init__ called -/
theorem call_vw {u e t0 : Addr} {rest : List Value} {Q : Value → Shared → Prop}
    (hC : h.get? C = some (excClassObj nm q C N bs bm hdct sn sub ab col dd k0 k1 k2 k3 k5 "ValueError.__new__")) (he : h.get? e = some (HandSPX.excO C t0)) (hu : h.get? u = some (kxs_mw "ValueError.__init__" e)) (hrest : rest.length ≤ sizeLine)
    (hq : ∀ h' t1, (∀ b o, b ≠ e → h.get? b = some o → h'.get? b = some o) → h'.get? e = some (HandSPX.excO C t1) → Q .none ⟨h', g, d, t, os⟩) :
    wpAny (model prog w) A (call (.ref u) rest) Q E ⟨h, g, d, t, os⟩ := by
  refine wpAny_call (codeAny_of_tree ?_)
  show wpAny _ A.in1 (callAny (.ref u) ⟨rest, []⟩) _ _ _
  simp only [callAny]
  refine wpAny_bind (wpAny_load hu ?_)
  simp only [kxs_mw, show (Value.type "method-wrapper" == Value.type "method" || Value.type "method-wrapper" == Value.type "builtin_function_or_method" || Value.type "method-wrapper" == Value.type "method-wrapper") = true by decide, if_true]
  refine W.KFB.if_so (by decide) ?_
  refine wpAny_bind (PySem.ESX.check_bound F.excBase_ValueError hC he rfl ?_)
  refine wpAny_bind (wpAny_pure (wpAny_pure ?_))
  refine ⟨Code.quiet_builtin _ (by decide +kernel), codeAny_builtin F.excBase_ValueError.initEntry ?_⟩
  rw [Around.under_plainId F.excBase_ValueError.init.plain _]
  wp_walk
  refine hq _ h.objs.size (fun b o hb ho => ?_) ?_
  · rw [Heap.get?_update_other _ _ (Ne.symm hb)]
    exact Heap.get?_push_of_some _ ho
  · rw [Heap.get?_update_self _ (Heap.get?_push_of_some _ he) rfl]
    rfl
end
theorem interactive_fn {env : Env} (h : env.scope.kind = .function) : interactive env = false := by unfold interactive; rw [h]; rfl
theorem super_eval {env : Env} {p0 p1 p2 p4 : Pos} {name : Str} {e : Expr} (hl : (p2.endLine == p4.line) = true) (hs : starEach [e] env = [(false, eval e env)]) : eval (.Call (.Attribute (.Call (.Name "super" p0) [] [] p1) name p2) [e] [] p4) env = (do
      let ov ← attributeBase (.Call (.Name "super" p0) [] [] p1) name env (eval (.Call (.Name "super" p0) [] [] p1) env)
      standAt p2.atName
      let (f, first) ← holding [ov] (getMethod ov name (do return (← importBound (.Call (.Name "super" p0) [] [] p1) env).getD true))
      callWith p4 f first (backTo p4 (starEach [e] env)) []) := by
  show (do
    let ov ← attributeBase (.Call (.Name "super" p0) [] [] p1) name env (eval (.Call (.Name "super" p0) [] [] p1) env)
    standAt p2.atName
    methodCall (.Call (.Name "super" p0) [] [] p1) name p2 p4 env ov ([e].length + ([] : List Keyword).length) (backTo p4 (starEach [e] env)) (backToKw p4 (keywordEach [] env))) = _
  have e1 : methodCallForm ([e].length + ([] : List Keyword).length) (backTo p4 (starEach [e] env)) (backToKw p4 (keywordEach [] env)) = true := by rw [hs]; rfl
  unfold methodCall
  rw [e1]
  have e2 : methodCallPos true (.Call (.Name "super" p0) [] [] p1) env p2 p4 = pure p4 := by unfold methodCallPos; rw [hl]; rfl
  rw [e2]
  simp only [calleeOf, if_true, pure_bind]
  rfl
/-- what an exception's own __init__ is -/
structure IniB (K : PySem.W.Frag) (P : Program) (mg : Str → Option Value) (C : Addr) (f : Str) (fI : Addr) (a0 a1 : Str) (body : List Stmt) (sc : Scope) : Prop where
  o : OexC K C
  hno : PySem.W.findIn K (.ref C) f = some none
  find : PySem.W.findIn K (.ref C) "__init__" = some (some (.ref fI))
  cls : ∃ cd, PySem.W.clsIn K C = some cd
  mro : PySem.W.mroIn K C (.ref C) = some true
  ve : PySem.W.subIn K (.ref C) (.type "ValueError") = some true
  opq : PySem.W.nsIn K cStatics "thirdparty.any" = some none
  sup : PySem.W.ks_superIn K C C "__init__" = some (some (.builtin "ValueError.__init__"))
  fn : ∃ (oc : Value) (od : Option Addr) (name qual : Str) (ar : Arguments) (kV doc pm ct : Value) (an : Option Addr) (cda cc : Addr) (osl : Array (Option Value)),
    K.lookup fI = some ⟨oc, od, .func (PySem.W.ksFn name qual ar body sc .none kV doc pm an (.ref cda) ct cc), osl⟩ ∧ oc = .type "function" ∧
    PySem.W.codeIn K (.ref cda) qual = true ∧ (∃ (x1 : Value) (x2 : Option Addr) (vs : Array Value) (x3 : Array (Option Value)) (file : Str) (tf : Tok), K.lookup cda = some ⟨x1, x2, .fields vs, x3⟩ ∧ vs[2]? = some (.str file tf) ∧ (P.main.file == file) = true) ∧
    (∃ (x1 : Value) (x2 : Option Addr) (x3 : Array (Option Value)), K.lookup cc = some ⟨x1, x2, .cell (some (.ref C)), x3⟩) ∧
    (∃ (an0 an1 : Option Expr) (p0 p1 : Pos), ar = ⟨[], [⟨a0, an0, p0⟩, ⟨a1, an1, p1⟩], none, [], [], none, []⟩)
  top : (P.main.scope.names.lookup ("super" : Str)).isSome = false
  msup : mg "super" = none
  kind : sc.kind = .function
  co : sc.isCoroutine = false
  gen : sc.isGenerator = false
  ne : a0 ≠ a1
  ks : sc.names.lookup ("super" : Str) = some .globalImplicit
  kc : sc.names.lookup ("__class__" : Str) = some .free
  k0 : sc.names.lookup a0 = some .local
  k1 : sc.names.lookup a1 = some .local
  nc : ∀ x ∈ sc.names, x.2 ≠ .cell
  d0 : (a0 == ("__debug__" : Str)) = false
  d1 : (a1 == ("__debug__" : Str)) = false
  bd : ∃ (p0 p1 p2 p3 p4 p5 p6 p7 p8 p9 : Pos), (p2.endLine == p4.line) = true ∧ body = [.Expr (.Call (.Attribute (.Call (.Name "super" p0) [] [] p1) "__init__" p2) [.Name a1 p3] [] p4) p5, .Assign [.Attribute (.Name a0 p6) f p7] (.Name a1 p8) p9]
section
variable {X : Cx} {pins : List (Addr × Obj)} {σ : L2.St} {H : Hp} {s : Shared}
theorem ini_run {C fI : Addr} {f a0 a1 : Str} {body : List Stmt} {sc : Scope} {v : V} {u : Value} {Q : XK} {k : Nat} (B : IniB X.K X.prog X.mg C f fI a0 a1 body sc) (I : Inv X pins σ H s) (hr : Room (k + 1) X.A) (rv : RelV v u)
    (hq : ∀ dd, H dd = none → Q (.ref C) (some dd) (upd H dd (.xd [(f, v)]))) : wpAny (model X.prog X.w) X.A (call (.ref C) [u]) (MkP X pins σ Q) X.xe s := by
  obtain ⟨nm, q, N, bs, bm, sn, sub, ab, col, ddC, k0, k1, k2, k3, k5, hC, hbm⟩ := B.o.cls
  obtain ⟨oc, od, name, qual, ar, kV, doc, pm, ct, an, cda, cc, osl, lk, rfl, hcd, ⟨y1, y2, vs, y3, file, tf, hcode, hvs, hfile⟩, ⟨z1, z2, z3, hcell⟩, ⟨an0, an1, q0, q1, rfl⟩⟩ := B.fn
  obtain ⟨p0, p1, p2, p3, p4, p5, p6, p7, p8, p9, hline, rfl⟩ := B.bd
  have KX := I.kIn
  have lim := I.nolimit
  obtain ⟨hp, g, dr, tk, os⟩ := s
  have tyI : PySem.W.typeIn X.K (.ref fI) = some (.type "function") := by
    show (X.K.lookup fI).map (·.cls) = _
    rw [lk]; rfl
  have hr2 := hr.make C [u] []
  refine wpAny_call (PySem.HandSPX.call_own F.excBase_ValueError (fun Y => PySem.HandSPX.refsVE_contains Y bm hbm) (KX _ _ hC) (PySem.W.looks_findIn KX B.find) (fun self => PySem.W.bind_fn KX self tyI) (by show 1 ≤ sizeLine; rw [sizeLine_eq]; omega) ?_)
  have kk : ∀ b o, hp.get? b = some o → ((hp.push (PySem.W.kdv_tup [u])).push (PySem.HandSPX.excO C hp.objs.size)).get? b = some o := fun b o e => Heap.get?_push_of_some _ (Heap.get?_push_of_some _ e)
  have hget : ((hp.push (PySem.W.kdv_tup [u])).push (PySem.HandSPX.excO C hp.objs.size)).get? (hp.objs.size + 1) = some (PySem.HandSPX.excO C hp.objs.size) := by heap_get
  refine PySem.ks_codeAny_call_defAt (body := [.Expr (.Call (.Attribute (.Call (.Name "super" p0) [] [] p1) "__init__" p2) [.Name a1 p3] [] p4) p5, .Assign [.Attribute (.Name a0 p6) f p7] (.Name a1 p8) p9]) (binds := [(a0, .ref (hp.objs.size + 1)), (a1, u)]) hr2.depth (kk _ _ (KX _ _ lk)) rfl (lim.keeps kk) ((PySem.W.codeRec_of KX hcd).keeps kk) rfl (BindsTo.of_eq ?_) B.nc ?_ (fun h₀ hns kp => ?_) B.co B.gen B.kind
  · have e0 : (a0 == a0) = true := beq_self_eq_true a0
    have e1 : (a1 == a1) = true := beq_self_eq_true a1
    have e2 : (a1 == a0) = false := by simpa using Ne.symm B.ne
    have e3 : (a0 == a1) = false := by simpa using B.ne
    unfold bindArgs
    simp [PySem.W.ksFn, PySem.W.fnX, seqItems?, List.lookup, e0, e1, e2, e3]
    rfl
  · intro x hx
    rcases List.mem_cons.mp hx with e | hx
    · rw [e]; exact B.k0
    · rcases List.mem_cons.mp hx with e | hx
      · rw [e]; exact B.k1
      · cases hx
  · have KX0 : X.K.In h₀ := (KX.keeps kk).keeps kp
    have he0 : h₀.get? (hp.objs.size + 1) = some (PySem.HandSPX.excO C hp.objs.size) := kp _ _ hget
    obtain ⟨cdC, hcC⟩ := B.cls
    obtain ⟨oC, hC1, hC2⟩ : ∃ oC, X.K.lookup C = some oC ∧ oC.data = .cls cdC := by
      unfold PySem.W.clsIn at hcC
      split at hcC
      · rename_i c d cd' sl ho
        cases hcC
        exact ⟨_, ho, rfl⟩
      · cases hcC
    have neC : hp.objs.size + 1 ≠ C := fun z => by
      have := Heap.lt_size (KX _ _ hC1)
      have z2 := z ▸ this
      exact Nat.lt_irrefl _ (Nat.lt_of_succ_lt (z ▸ this))
    refine ks_wpAt_execs_cons (ks_wpAt_Expr_any (hi := interactive_fn B.kind) (ks_wpAt_MethodCall (ks_wpAt_super_base (f := fI) (cc := cda) (file := file) B.ks B.kc (by decide) rfl (KX0 _ _ lk) rfl rfl rfl (KX0 _ _ hcode) rfl hvs hfile B.top ?_) (super_eval hline rfl)))
    have G0 := (I.mod.glob.keeps I.bk).keeps fun b o e => kp b o (kk b o e)
    obtain ⟨mb, b1, b2⟩ := I.mod.blt
    have B0 := (b1.keeps I.bk).keeps fun b o e => kp b o (kk b o e)
    refine PySem.W.ks_loadName_global B.kind B.ks (loadGlobal_builtin (mg := X.mg) (mb := mb) G0 B.msup B0 ((b2 _ (by decide)).trans (show bootBuiltins "super" = some (.type "super") from by decide +kernel)) ⟨rfl, ?_⟩)
    refine wpAny_loadName_free B.kind B.kc rfl ⟨_, KX0 _ _ hcell, rfl⟩ ?_
    refine wpAny_loadName_local (v := .ref (hp.objs.size + 1)) B.kind B.k0 hns ?_ ?_
    · show ([(a0, .ref (hp.objs.size + 1)), (a1, u)] : List (Str × Value)).reverse.lookup a0 = _
      have e2 : (a0 == a1) = false := by simpa using B.ne
      simp [List.lookup, e2]
    refine ks_wpAny_isType_cls (KX0 _ _ hC1) hC2 ⟨rfl, ?_⟩
    refine ks_wpAny_call_super (KX0 _ _ hC1) hC2 he0 rfl (fun c e => by cases e) (PySem.W.looks_mroIn KX0 B.mro) (fun h2 e2 k2 => ?_)
    have KX2 : X.K.In h2 := KX0.keeps k2
    have he2 := k2 _ _ he0
    have hns2 := hns.keeps k2
    have hI2 : PySem.W.Looks (model X.prog X.w) h2 (isInstance (.ref (hp.objs.size + 1)) (.type "ValueError")) true :=
      (PySem.W.InstAt.type (od := none) ⟨he2, rfl, rfl, trivial⟩).andThen (PySem.W.looks_subIn KX2 B.ve)
    have hsup := B.sup
    unfold PySem.W.ks_superIn at hsup
    rw [hcC] at hsup
    refine PySem.W.kxs_getMethod PySem.W.kxs_ValueError e2 (PySem.W.looks_opaque KX2 B.opq) (l₀ := cdC.mro) (fun A Q E s k q => wpAny_bind ((PySem.W.looks_clsIn KX2 hcC) A _ E s k (wpAny_pure q))) rfl KX2 hsup hI2 neC (by decide) ?_
    have hu3 : (h2.push (PySem.W.kxs_mw "ValueError.__init__" (hp.objs.size + 1))).get? h2.objs.size = some (PySem.W.kxs_mw "ValueError.__init__" (hp.objs.size + 1)) := Heap.get?_push_at rfl rfl
    have k3 : ∀ b o, h2.get? b = some o → (h2.push (PySem.W.kxs_mw "ValueError.__init__" (hp.objs.size + 1))).get? b = some o := fun b o e => Heap.get?_push_of_some _ e
    refine PySem.W.kxs_callWith (i := "ValueError.__init__") (x := hp.objs.size + 1) rfl ?_
    refine evalArgs_plain ?_
    have hns3 := hns2.keeps k3
    have e2' : (a1 == a0) = false := by simpa using Ne.symm B.ne
    have e3' : (a0 == a1) = false := by simpa using B.ne
    have lk1 : ([(a0, Value.ref (hp.objs.size + 1)), (a1, u)] : List (Str × Value)).reverse.lookup a1 = some u := by simp [List.lookup]
    have lk0 : ([(a0, Value.ref (hp.objs.size + 1)), (a1, u)] : List (Str × Value)).reverse.lookup a0 = some (.ref (hp.objs.size + 1)) := by simp [List.lookup, e3']
    refine spliced_cons (wpAny_Name (wpAny_loadName_local B.kind B.k1 hns3 lk1 ?_) B.d1)
    refine spliced_nil ⟨hu3, ?_⟩
    have KX3 : X.K.In (h2.push (PySem.W.kxs_mw "ValueError.__init__" (hp.objs.size + 1))) := KX2.keeps k3
    refine call_vw (KX3 _ _ hC) (k3 _ _ he2) hu3 (by show 1 ≤ sizeLine; rw [sizeLine_eq]; omega) fun h5 t5 k5 he5 => ?_
    have KX5 : X.K.In h5 := fun b o e => k5 b o (fun z => by
      have := I.hok.fresh (a := hp.objs.size + 1) (by show hp.objs.size ≤ _; omega)
      have z2 := Heap.lt_size (KX _ _ (z ▸ e))
      exact Nat.lt_irrefl _ (Nat.lt_of_succ_lt z2)) (KX3 b o e)
    have hL : (callEnv (PySem.W.ksFn name qual ⟨[], [⟨a0, an0, q0⟩, ⟨a1, an1, q1⟩], none, [], [], none, []⟩ [.Expr (.Call (.Attribute (.Call (.Name "super" p0) [] [] p1) "__init__" p2) [.Name a1 p3] [] p4) p5, .Assign [.Attribute (.Name a0 p6) f p7] (.Name a1 p8) p9] sc .none kV doc pm an (.ref cda) ct cc) ((hp.push (PySem.W.kdv_tup [u])).push (PySem.HandSPX.excO C hp.objs.size)).objs.size fI).locals = ((hp.push (PySem.W.kdv_tup [u])).push (PySem.HandSPX.excO C hp.objs.size)).objs.size := rfl
    have hns5 : h5.Ns ((hp.push (PySem.W.kdv_tup [u])).push (PySem.HandSPX.excO C hp.objs.size)).objs.size fun x => ([(a0, Value.ref (hp.objs.size + 1)), (a1, u)] : List (Str × Value)).reverse.lookup x := by
      obtain ⟨oL, es, ep, hL, r⟩ := hns3
      exact ⟨oL, es, ep, k5 _ _ (fun z => by
        have z' : hp.objs.size + 1 + 1 = hp.objs.size + 1 := by rw [Heap.size_push, Heap.size_push] at z; exact z
        exact Nat.succ_ne_self _ z') hL, r⟩
    refine ks_wpAt_execs_cons (wpAt_of_wpAny (plainObj_wpAny_Assign_Attribute ?_))
    refine wpAny_Name (wpAny_loadName_local B.kind B.k1 hns5 lk1 ?_) B.d1
    refine wpAny_Name (wpAny_loadName_local B.kind B.k0 hns5 lk0 ?_) B.d0
    have hcl : PySem.W.clsIn X.K C = some { name := nm, bases := bs, mro := .ref C :: bm, ns := N, qualname := q, hasDict := true, slotNames := sn, subclasses := sub, abstract := ab, collection := col, hasDel := false } := by unfold PySem.W.clsIn; rw [hC] <;> rfl
    refine PySem.W.set_plain KX5 (ox := PySem.HandSPX.excO C t5) (od := none) ⟨he5, rfl, rfl, trivial⟩ B.o.sa ?_
    refine PySem.HandSPX.exc_osa KX5 he5 hcl (show PySem.HandSPX.refsVE (.ref C :: bm) = true from hbm) rfl B.hno (fun h6 tk6 dx k6 dn dne hx6 hn6 => ?_)
    refine wpAt_of_wpAny (wpAny_execs_nil ?_)
    have ke : ∀ b o, b ≠ hp.objs.size + 1 → hp.get? b = some o → h6.get? b = some o := fun b o hb e => k6 b o hb (k5 b o hb (k3 b o (k2 b o (kp b o (kk b o e)))))
    have nb : ∀ b o, hp.get? b = some o → b ≠ hp.objs.size + 1 := fun b o e z => by
      have := Heap.lt_size e
      rw [z] at this
      exact Nat.lt_irrefl _ (Nat.lt_of_succ_lt this)
    have dsz : hp.objs.size ≤ dx := Nat.le_of_lt (Nat.lt_of_lt_of_le (Nat.lt_of_succ_lt (Heap.lt_size he5)) dn)
    obtain ⟨G, g1, g2⟩ := restrict h6 fun b => decide (b ≠ hp.objs.size + 1)
    have gk : ∀ b, b ≠ hp.objs.size + 1 → G.get? b = h6.get? b := fun b hb => g1 b (decide_eq_true hb)
    have ge : G.get? (hp.objs.size + 1) = none := g2 _ (by simp)
    have hxd : ObjOk X.prog X.w (upd H dx (.xd [(f, v)])) G dx (.xd [(f, v)]) := ⟨_, hn6.at fun o y => (gk dx dne).trans y, relO_put (fs := []) rv fun g => True.intro⟩
    have J := I.laid (t' := tk6) (a := dx) (o := .xd [(f, v)]) (h' := G) (fun b o e => (gk b (nb b o e)).trans (ke b o (nb b o e) e)) dsz hxd
    have hH : H (hp.objs.size + 1) = none := I.hok.fresh (by show hp.objs.size ≤ _; omega)
    refine ⟨rfl, ?_⟩
    refine ⟨hp.objs.size + 1, _, _, ⟨G, g, dr, tk6, os⟩, _, .ref C, some dx, rfl, J, fun b o z => ?_, ge, hx6, ⟨rfl, rfl⟩, rfl, rfl, ?_, rfl, I.bare, raises_own B.o.exC B.o.tyC, hq dx (I.hok.fresh dsz)⟩
    · by_cases hb : b = hp.objs.size + 1
      · rw [hb, ge] at z; cases z
      · exact (gk b hb).symm.trans z
    · rw [upd_ne (Ne.symm dne)]; exact hH

/-- BadX(v) -/
theorem pmk_ini {C fI : Addr} {f a0 a1 x : Str} {body : List Stmt} {sc : Scope} {k : Nat} {e : Expr} {te : TE} {p pos : Pos} (B : IniB X.K X.prog X.mg C f fI a0 a1 body sc) (hr : Room (k + 1) X.A) (hg : Gl X x) (hm : X.mg x = some (.ref C)) (hdb : (x == ("__debug__" : Str)) = false) (he : PE X e te) (hn : Nice e) :
    PMk X (.Call (.Name x p) [e] [] pos) (fun σ H Q => te σ H fun v0 H1 => ∃ v, [v0] = [v] ∧ ∀ dd, H1 dd = none → Q (.ref C) (some dd) (upd H1 dd (.xd [(f, v)]))) := by
  intro pins s σ H Q I h
  refine wpAny_Call_Name_kw (ld_glob I hg hm ?_ hdb)
  refine PySem.W.callWith_K (h₀ := X.base) I.ok.mod.kin B.o.kC (thn ((pa_cons he pa_nil (hn.star [] X.env)).run pos pins s σ H (fun vs H1 => ∃ v, vs = [v] ∧ ∀ dd, H1 dd = none → Q (.ref C) (some dd) (upd H1 dd (.xd [(f, v)]))) I ?_) fun us s1 hh => ?_) (hn.star [] X.env) rfl
  · exact h
  · obtain ⟨vs, H1, I1, r1, v, rfl, q⟩ := hh
    refine ⟨I1.kIn, ?_⟩
    cases r1 with
    | cons ru rn =>
      cases rn
      exact ini_run B I1 hr ru q
/-- BadX() -/
theorem pmk_own0 {C : Addr} {x : Str} {p pos : Pos} (q : PySem.W.excIn X.K C He.veBase "ValueError.__new__" = true) (gC : X.mg x = some (.ref C)) (kC : PySem.W.keepIn X.K (.ref C) = true) (r : Raises X (.ref C)) (hg : Gl X x)
    (hdb : (x == ("__debug__" : Str)) = false) : PMk X (.Call (.Name x p) [] [] pos) (fun _ H Q => Q (.ref C) none H) := by
  intro pins s σ H Q I h
  refine wpAny_Call_Name_kw (ld_glob I hg gC ?_ hdb)
  refine PySem.W.callWith_K0 I.kIn kC ?_
  obtain ⟨bm, N, nm, qn, bs, hdct, sn, sub, ab, col, dd, k0, k1, k2, k3, k5, mN, hC, hN, hni, T⟩ := exc_obj I.kIn q
  refine wpAny_call_exc_subT F.excBase_ValueError T hC hN hni (fun h' e hm => ?_) (by show 0 ≤ sizeLine; exact Nat.zero_le _)
  exact mk_of I hm r h (I.hok.gone hm.new)
end
/-- what is known of an exception class -/
def Ec (C : Cn) (K : PySem.W.Frag) (P : Program) (mg : Str → Option Value) (c : Nat) (x : Str × Bool) : Prop := mg x.1 = some (.ref (C.ec c)) ∧ PySem.W.keepIn K (.ref (C.ec c)) = true ∧ PySem.W.subIn K (.ref (C.ec c)) (.type "BaseException") = some true ∧ PySem.W.typeIn K (.ref (C.ec c)) = some (.type "type") ∧
  (x.2 = false → C.ef c = none ∧ PySem.W.excIn K (C.ec c) He.veBase "ValueError.__new__" = true) ∧ (x.2 = true → ∃ f fI a0 a1 body sc, C.ef c = some f ∧ IniB K P mg (C.ec c) f fI a0 a1 body sc)
section
variable {X : Cx} {C : Cn} {E : XK}
theorem snds_rse0 {c : Nat} {x : Str} {p cpos pos : Pos} {ih : Ev} {d : Nat} (hc : X.calm = true) (tk : Takes X (fun cls d _ H => E cls d H)) (hg : Gl X x) (hdb : (x == ("__debug__" : Str)) = false) (e : Ec C X.K X.prog X.mg c (x, false)) :
    SndS E X C (.Raise (some (.Call (.Name x p) [] [] cpos)) none pos) (fun σ m => SB σ (evL ih d σ [] m) fun ws m1 => .exc ⟨c, ws⟩ σ m1) := by
  obtain ⟨e1, e2, e3, e4, e5, _⟩ := e
  obtain ⟨e5, e6⟩ := e5 rfl
  refine ⟨(ps_raise hc tk (pmk_own0 e6 e1 e2 (raises_own e3 e4) hg hdb)).mono fun D σ H ⟨ι, σ', m, s, S, p⟩ => ?_⟩
  have p : QX X.K C ι H E ⟨c, []⟩ m := p
  exact p ι H none S (Le.refl _) (Tk.refl _ _) ⟨e5, rfl⟩
theorem snds_rse1 {c k : Nat} {x : Str} {p cpos pos : Pos} {ih : Ev} {d : Nat} {a : Expr} {xa : Ex} (hc : X.calm = true) (tk : Takes X (fun cls d _ H => E cls d H)) (hr : Room (k + 1) X.A) (hg : Gl X x) (hdb : (x == ("__debug__" : Str)) = false) (e : Ec C X.K X.prog X.mg c (x, true)) (ha : Snd X C a (fun σ m => ih.e d xa σ m)) :
    SndS E X C (.Raise (some (.Call (.Name x p) [a] [] cpos)) none pos) (fun σ m => SB σ (evL ih d σ [xa] m) fun ws m1 => .exc ⟨c, ws⟩ σ m1) := by
  obtain ⟨e1, e2, e3, e4, _, e5⟩ := e
  obtain ⟨f, fI, a0, a1, body, sc, e5, e6⟩ := e5 rfl
  refine ⟨(ps_raise hc tk (pmk_ini e6 hr hg e1 hdb ha.pe ha.nice)).mono fun D σ H ⟨ι, σ', m, s, S, p⟩ => ?_⟩
  refine tG_bind s S (SBind p) fun ι1 H1 w v m1 l1 t1 s1 S1 r1 p1 => ?_
  refine ⟨v, rfl, fun dd hdd => ?_⟩
  have p1 : QX X.K C ι H E ⟨c, [w]⟩ m1 := p1
  refine p1 ι1 _ (some dd) (simH_add S1 hdd) l1 (t1.trans (tk_new hdd)) ⟨f, dd, v, e5, rfl, upd_same, r1.mono (tk_new hdd) (Le.refl _)⟩
end
end
end Jw

/-! Instances of own classes: fields, methods, C(..). -/
namespace Jw
open PySem PySem.Spec PyProof.Rows L2
noncomputable section
/-- what the own classes are -/
structure Kl (C : Cn) (K : PySem.W.Frag) (mg : Str → Option Value) : Prop where
  nd : C.fl.Nodup
  dj : ∀ m ∈ C.mn, m ∉ C.fl
  cls : ∀ (c : Nat) (x : Str), C.cn[c]? = some x → L2.Cls K (C.cl c)
  na : ∀ (c : Nat) (x : Str), C.cn[c]? = some x → ∀ f ∈ C.fl, NoAttr K (C.cl c) f
  mg : ∀ (c : Nat) (x : Str), C.cn[c]? = some x → mg x = some (.ref (C.cl c))
section
variable {X : Cx} {C : Cn} {K : PySem.W.Frag} {mg : Str → Option Value} {ι : Im} {H : Hp} {m : M} {Q : VK} {Γ : Pg} {a b : Expr} {ga gb : Sl → M → RE W} {pos p apos cpos : Pos} {E : XK} {T : Addr → List V → Prop}
theorem nodup_at : ∀ {l : List Str} {i j : Nat} {x : Str}, l.Nodup → l[i]? = some x → l[j]? = some x → i = j
  | l, i, j, x, h, hi, hj => by
    obtain ⟨h1, e1⟩ := List.getElem?_eq_some_iff.mp hi
    obtain ⟨h2, e2⟩ := List.getElem?_eq_some_iff.mp hj
    exact (List.getElem_inj h).mp (e1.trans e2.symm)
theorem fld_get (nd : C.fl.Nodup) {f : Nat} {x : Str} (hx : C.fl[f]? = some x) : ∀ {l : List (Nat × W)} {r : List (Str × V)} {w : W}, RepF C T ι l r → fldGet f l = some w → ∃ v, r.lookup x = some v ∧ RepV C T ι w v
  | _, _, _, .nil, h => by cases h
  | _, _, w, .cons (n := n) (x := y) (v := v) e q t, h => by
    have h : ifB (Nat.beq n f) (some _) (fldGet f _) = some w := h
    cases hb : Nat.beq n f with
    | true =>
      rw [hb] at h
      cases (show some _ = some w from h)
      obtain rfl := Nat.eq_of_beq_eq_true hb
      rw [hx] at e; cases e
      exact ⟨v, by rw [List.lookup_cons, beq_self_eq_true], q⟩
    | false =>
      rw [hb] at h
      have h : fldGet f _ = some w := h
      obtain ⟨v', e1, q1⟩ := fld_get nd hx t h
      refine ⟨v', ?_, q1⟩
      have ne : (x == y) = false := by
        rw [beq_eq_false_iff_ne]
        intro z
        rw [← z] at e
        rw [nodup_at nd e hx, Nat.beq_refl] at hb
        cases hb
      rw [List.lookup_cons, ne]; exact e1
theorem repF_len : ∀ {l : List (Nat × W)} {r : List (Str × V)}, RepF C T ι l r → l.length = r.length
  | _, _, .nil => rfl
  | _, _, .cons _ _ t => by rw [List.length_cons, List.length_cons, repF_len t]
theorem repF_no {x : Str} (hx : x ∉ C.fl) : ∀ {l : List (Nat × W)} {r : List (Str × V)}, RepF C T ι l r → r.lookup x = none
  | _, _, .nil => rfl
  | _, _, .cons (x := y) e _ t => by
    have ne : (x == y) = false := by
      rw [beq_eq_false_iff_ne]
      intro z
      rw [← z] at e
      exact hx (List.mem_of_getElem? e)
    rw [List.lookup_cons, ne]; exact repF_no hx t
theorem fld_put (nd : C.fl.Nodup) {f : Nat} {x : Str} (hx : C.fl[f]? = some x) {w : W} {v : V} (q : RepV C T ι w v) : ∀ {l : List (Nat × W)} {r : List (Str × V)}, RepF C T ι l r → RepF C T ι (fldPut f w l) (L2.putF x v r)
  | _, _, .nil => .cons hx q .nil
  | _, _, .cons (n := n) (x := y) (w := u) (v := z) (l := l) (r := r) e q1 t => by
    show RepF C T ι (ifB (Nat.beq n f) ((f, w) :: l) ((n, u) :: fldPut f w l)) (L2.putF x v ((y, z) :: r))
    cases hb : Nat.beq n f with
    | true =>
      obtain rfl := Nat.eq_of_beq_eq_true hb
      rw [hx] at e; cases e
      have : L2.putF x v ((x, z) :: r) = (x, v) :: r := by unfold L2.putF; rw [if_pos rfl]
      rw [this]
      exact .cons hx q t
    | false =>
      have ne : y ≠ x := by
        intro z
        rw [z] at e
        rw [nodup_at nd e hx, Nat.beq_refl] at hb
        cases hb
      have : L2.putF x v ((y, z) :: r) = (y, z) :: L2.putF x v r := by
        conv => lhs; unfold L2.putF
        rw [if_neg ne]
      rw [this]
      exact .cons e q1 (fld_put nd hx q t)
theorem getI_inv {α : Type} {f : α → M → Prop} {w : W} {k : Ad → Nat → List (Nat × W) → RE α} (p : PostE f (getI m w k)) : ∃ n c fs, w = .ref n ∧ m.get n = some (.ins c fs) ∧ PostE f (k n c fs) := by
  unfold getI at p
  split at p
  · split at p
    · rename_i e
      exact ⟨_, _, _, rfl, e, p⟩
    · exact p.elim
  · exact p.elim
theorem ins_at (S : SimH K C ι m H) {n : Ad} {a : Addr} {c : Nat} {fs : List (Nat × W)} (hn : ι n = some a) (e : m.get n = some (.ins c fs)) : ∃ dx vs x, C.cn[c]? = some x ∧ H a = some (.ins (C.cl c) dx vs) ∧ RepF C (TT' K H) ι fs vs := by
  obtain ⟨a', f1, f2⟩ := S.ob n _ e
  rw [hn] at f1; cases f1
  exact f2
/-- o.f -/
theorem snd_fld (kl : Kl C X.K X.mg) {f : Nat} {x : Str} (hx : C.fl[f]? = some x) (hb : noBase a = true) (ha : Snd X C a ga) : Snd X C (.Attribute a x pos) (fun σ m => REbind (ga σ m) fun w m1 => getF w f m1) :=
  Snd.val ⟨fun _ _ => rfl, fun _ _ => rfl, fun _ _ => rfl, fun op => by cases op <;> rfl, fun _ _ _ => rfl, fun _ _ _ _ => rfl⟩ ((pe_fld ha.pe (noBase_ok hb)).mono fun σ H Q ⟨ι, σ', m, s, S, pp⟩ => by
    refine tG_bind s S pp fun ι1 H1 w v m1 l1 t1 s1 S1 r1 p1 => ?_
    obtain ⟨n, c, fs, rfl, hm, p1⟩ := getI_inv p1
    obtain ⟨u, e, p1⟩ := PostE.liftO p1
    cases r1 with
    | ref hn =>
      obtain ⟨dx, vs, y, h0, h1, h2⟩ := ins_at S1 hn hm
      obtain ⟨v, e1, q⟩ := fld_get kl.nd hx h2 e
      exact ⟨_, _, dx, vs, v, rfl, h1, kl.cls c y h0, kl.na c y h0 x (List.mem_of_getElem? hx), e1, p1 ι1 H1 v S1 l1 t1 q⟩) fun _ => rfl
theorem ins_put (kl : Kl C X.K X.mg) (S : SimH X.K C ι m H) {f : Nat} {x : Str} (hx : C.fl[f]? = some x) {n : Ad} {a : Addr} {c : Nat} {fs : List (Nat × W)} {u : W} {y : V} (hn : ι n = some a) (hm : m.get n = some (.ins c fs)) (hl : fs.length < 900) (r : RepV C (TT' X.K H) ι u y) :
    ∃ dx vs, H a = some (.ins (C.cl c) dx vs) ∧ L2.Cls X.K (C.cl c) ∧ NoAttr X.K (C.cl c) x ∧ vs.length < 1000 ∧ SimH X.K C ι (m.put n (.ins c (fldPut f u fs))) (upd H a (.ins (C.cl c) dx (L2.putF x y vs))) ∧ Tk X.K H (upd H a (.ins (C.cl c) dx (L2.putF x y vs))) := by
  obtain ⟨dx, vs, z, h0, h1, h2⟩ := ins_at S hn hm
  have tk : Tk X.K H (upd H a (.ins (C.cl c) dx (L2.putF x y vs))) := tk_upd (fun vs q => by rw [h1] at q; cases q) fun _ _ q => by rw [h1] at q; cases q
  refine ⟨dx, vs, h1, kl.cls c z h0, kl.na c z h0 x (List.mem_of_getElem? hx), by rw [← repF_len h2]; omega, S.put hn (S.ne_root hm (by intro z; cases z)) (.inr (.inr (.inr ⟨_, _, _, h1⟩))) tk ⟨dx, _, z, h0, upd_same, (fld_put kl.nd hx r h2).mono tk (Le.refl _)⟩, tk⟩
theorem fldSet_ok (kl : Kl C X.K X.mg) {f : Nat} {x : Str} (hx : C.fl[f]? = some x) (ha : Snd X C a ga) {D : Ends} {σ : L2.St} {σ' : Sl} {w : W} {v : V} (s : SimS X.K C ι H σ' σ) (S : SimH X.K C ι m H) (r : RepV C (TT' X.K H) ι w v)
    (p : PostS E X.K C ι H D (SB σ' (REbind (ga σ' m) fun z m2 => REbind (setF z f w m2) fun _ m3 => .ok σ' m3) fun σ2 m2 => .nx σ2 m2)) :
    tG X.K C ga σ H (fun u H2 => ∃ b Cc dx fs, u = .ref b ∧ H2 b = some (.ins Cc dx fs) ∧ L2.Cls X.K Cc ∧ NoAttr X.K Cc x ∧ fs.length < 1000 ∧ D.nx σ (upd H2 b (.ins Cc dx (L2.putF x v fs)))) :=
  tG_bind s S (SBind p) fun ι2 H2 w2 v2 m2 l2 t2 s2 S2 r2 p3 => by
    have p3 := PostE.bind p3
    obtain ⟨n, c, fs, rfl, hm, p3⟩ := getI_inv p3
    obtain ⟨hl, p3⟩ := PostE.ifF p3
    cases r2 with
    | ref hn =>
      obtain ⟨dx, vs, h1, k1, k2, k3, S3, t3⟩ := ins_put kl S2 hx hn hm (Nat.blt_eq.mp hl) (r.mono t2 l2)
      exact ⟨_, _, dx, vs, rfl, h1, k1, k2, k3, p3 ι2 _ σ S3 l2 (t2.trans t3) (s2.mono t3 (Le.refl _))⟩
/-- o.f = e -/
theorem snds_asgF (kl : Kl C X.K X.mg) {f : Nat} {x : Str} {p' : Pos} (hx : C.fl[f]? = some x) (ha : Snd X C a ga) (hb : Snd X C b gb) (hs : swapsWith b (some (.Attribute a x p')) pos.line X.env = pure false) :
    SndS E X C (.Assign [.Attribute a x p'] b pos) (fun σ m => SB σ (gb σ m) fun w m1 => SB σ (REbind (ga σ m1) fun z m2 => REbind (setF z f w m2) fun _ m3 => .ok σ m3) fun σ2 m2 => .nx σ2 m2) :=
  ⟨(ps_fld ha.pe hb.pe hs).mono fun D σ H ⟨ι, σ', m, s, S, p⟩ => tS_bind s S p fun ι1 H1 w v m1 l1 t1 s1 S1 r1 p1 => fldSet_ok kl hx ha s1 S1 r1 p1⟩
theorem snds_asgFX (kl : Kl C X.K X.mg) {f : Nat} {x : Str} {p' : Pos} (hx : C.fl[f]? = some x) (ha : Snd X C a ga) (hb : SndX E X C b gb) (hs : swapsWith b (some (.Attribute a x p')) pos.line X.env = pure false) :
    SndS E X C (.Assign [.Attribute a x p'] b pos) (fun σ m => SX σ (gb σ m) fun w m1 => SB σ (REbind (ga σ m1) fun z m2 => REbind (setF z f w m2) fun _ m3 => .ok σ m3) fun σ2 m2 => .nx σ2 m2) :=
  ⟨(ps_fld ha.pe hb.pe hs).mono fun D σ H ⟨ι, σ', m, s, S, p⟩ => tX_bind s S p fun ι1 H1 w v m1 l1 t1 s1 S1 r1 p1 => fldSet_ok kl hx ha s1 S1 r1 p1⟩
/-! ### methods -/
/-- what is known of a method -/
structure MetA (C : Cn) (Γ : Pg) (P : Program) (w : World) (K : PySem.W.Frag) (mg : Str → Option Value) (base : Heap) (lv : Nat) (gf : Nat → List W → M → RE W) (c k f np : Nat) : Prop where
  ok : ∃ (y : Str) (fd : FuncData) (ps : List Str), C.mn[k]? = some y ∧ Meth K (C.cl c) y (C.ga f) ∧ FnOk P w K mg base (L2.CX P w) lv (C.ga f) fd ps (spF K C np fun ws m => gf f ws m) ∧ Binds K fd ps []
  mke : k = 0 → Mk K (C.cl c) (C.ga f)
def FoM (C : Cn) (Γ : Pg) (P : Program) (w : World) (K : PySem.W.Frag) (mg : Str → Option Value) (base : Heap) (lv : Nat) (gf : Nat → List W → M → RE W) : Prop :=
  ∀ (c k f np : Nat) (x : Str) (ms : List (Nat × Nat × Nat)), C.cn[c]? = some x → nth Γ.cl c = some ms → methOf k ms = some (f, np) → MetA C Γ P w K mg base lv gf c k f np
/-- o.m(e, ..), the class told by the reading -/
theorem pe_methA {o e : Expr} {es : List Expr} {y : Str} {ta : TE} {t : TA} {pl : Sem Bool} {k : Nat} (he : PE X o ta) (hr : Room k X.A) (hx : Passes (L2.CX X.prog X.w) X E) (ha : PA X (e :: es) t) (hst : starEach (e :: es) X.env = (false, eval e X.env) :: starEach es X.env) (hpl : (backTo pos (starEach es X.env)).any (·.1) = false)
    (ht : eval (.Call (.Attribute o y apos) (e :: es) [] pos) X.env = (do
      let ov ← eval o X.env
      standAt apos.atName
      let (f, first) ← holding [ov] (getMethod ov y pl)
      callWith pos f first (backTo pos (starEach (e :: es) X.env)) (backToKw pos (keywordEach [] X.env)))) :
    PE X (.Call (.Attribute o y apos) (e :: es) [] pos) (fun σ H Q => ta σ H fun x H1 => ∃ b Cc dx fs g fd ps sp, x = .ref b ∧ H1 b = some (.ins Cc dx fs) ∧ fs.lookup y = none ∧ L2.Cls X.K Cc ∧ Meth X.K Cc y g ∧ FnOk X.prog X.w X.K X.mg X.base (L2.CX X.prog X.w) k g fd ps sp ∧ Binds X.K fd ps [] ∧ t σ H1 fun vs H2 => sp (x :: (vs ++ [])) H2 Q E) := by
  refine ⟨fun pins s σ H Q I h => ?_⟩
  refine PySem.W.methodCall_KW (pl := pl) (thn (he.run pins s σ H _ I h) fun u s1 ⟨x, H1, I1, rx, b, Cc, dx, fs, g, fd, ps, sp, ex, ea, l, c, hm, F, hb, q⟩ => ?_) ht
  subst ex
  obtain rfl : u = Value.ref b := rx
  refine getmeth_ok I1 ea c hm l ?_
  refine PySem.W.callWith_K (first := [.ref b]) (h₀ := X.base) I1.ok.mod.kin hm.kp (thn (ha.run pos pins s1 σ H1 _ I1 q) fun us s2 ⟨vs, H2, I2, r, q2⟩ => ⟨I2.kIn, ?_⟩) hst hpl
  exact run_fn (us := .ref b :: us) (vs := .ref b :: vs) F hr hb .nil hx I2 (.cons rfl r) q2
theorem pe_methA0 {o : Expr} {y : Str} {ta : TE} {pl : Sem Bool} {k : Nat} (he : PE X o ta) (hr : Room k X.A) (hx : Passes (L2.CX X.prog X.w) X E)
    (ht : eval (.Call (.Attribute o y apos) [] [] pos) X.env = (do
      let ov ← eval o X.env
      standAt apos.atName
      let (f, first) ← holding [ov] (getMethod ov y pl)
      callWith pos f first (backTo pos (starEach [] X.env)) (backToKw pos (keywordEach [] X.env)))) :
    PE X (.Call (.Attribute o y apos) [] [] pos) (fun σ H Q => ta σ H fun x H1 => ∃ b Cc dx fs g fd ps sp, x = .ref b ∧ H1 b = some (.ins Cc dx fs) ∧ fs.lookup y = none ∧ L2.Cls X.K Cc ∧ Meth X.K Cc y g ∧ FnOk X.prog X.w X.K X.mg X.base (L2.CX X.prog X.w) k g fd ps sp ∧ Binds X.K fd ps [] ∧ sp [x] H1 Q E) := by
  refine ⟨fun pins s σ H Q I h => ?_⟩
  refine PySem.W.methodCall_KW (pl := pl) (thn (he.run pins s σ H _ I h) fun u s1 ⟨x, H1, I1, rx, b, Cc, dx, fs, g, fd, ps, sp, ex, ea, l, c, hm, F, hb, q⟩ => ?_) ht
  subst ex
  obtain rfl : u = Value.ref b := rx
  refine getmeth_ok I1 ea c hm l ?_
  exact PySem.W.callWith_K0 (first := [.ref b]) I1.kIn hm.kp (run_fn (us := [.ref b]) (vs := [.ref b]) F hr hb .nil hx I1 (.cons rfl .nil) q)
theorem few_of {l : List (Bool × Sem Value)} {n : Nat} (h : l.any (·.1) = false) (hn : n < 20) : methodCallForm n l [] = true := by
  unfold methodCallForm
  have e : l.all (!·.1) = true := by
    rw [List.all_eq_true]
    intro x hx
    cases hb : x.1 with
    | false => rfl
    | true => rw [List.any_eq_true.mpr ⟨x, hx, hb⟩] at h; cases h
  rw [e]
  simp only [List.all_nil, List.isEmpty_nil, if_true, Nat.add_zero, Bool.true_and, decide_eq_true_eq]
  omega
theorem meth_ev {o : Expr} {y : Str} {es : List Expr} {env : Env} (hb : noBase o = true) (hl : (apos.endLine == pos.line) = true) (hf : methodCallForm es.length (backTo pos (starEach es env)) [] = true) : ∃ pl, eval (.Call (.Attribute o y apos) es [] pos) env = (do
      let ov ← eval o env
      standAt apos.atName
      let (f, first) ← holding [ov] (getMethod ov y pl)
      callWith pos f first (backTo pos (starEach es env)) (backToKw pos (keywordEach [] env))) := by
  refine ⟨do return (← importBound o env).getD true, ?_⟩
  have e : eval (.Call (.Attribute o y apos) es [] pos) env = (do
    let ov ← attributeBase o y env (eval o env)
    standAt apos.atName
    methodCall o y apos pos env ov (es.length + 0) (backTo pos (starEach es env)) (backToKw pos (keywordEach [] env))) := rfl
  rw [e, noBase_ok hb]
  have hf' : methodCallForm (es.length + 0) (backTo pos (starEach es env)) (backToKw pos (keywordEach [] env)) = true := hf
  have hm : ∀ ov, methodCall o y apos pos env ov (es.length + 0) (backTo pos (starEach es env)) (backToKw pos (keywordEach [] env)) = (do
      let (f, first) ← holding [ov] (getMethod ov y (do return (← importBound o env).getD true))
      callWith pos f first (backTo pos (starEach es env)) (backToKw pos (keywordEach [] env))) := fun ov => by
    unfold methodCall calleeOf methodCallPos
    rw [hf', hl]
    rfl
  simp only [hm]
theorem noLam : Passes (L2.CX X.prog X.w) X (fun _ _ _ => False) := passes_call LamX.takes0 fun _ _ _ _ h => h
theorem methF_inv {f : W → M → Prop} {w : W} {k : Nat} {g : Nat × Nat → RE W} (p : PostE f (methF Γ w k m g)) : ∃ n c fs ms fn, w = .ref n ∧ m.get n = some (.ins c fs) ∧ nth Γ.cl c = some ms ∧ methOf k ms = some fn ∧ PostE f (g fn) := by
  obtain ⟨n, c, fs, e, hm, p⟩ := getI_inv p
  obtain ⟨ms, e1, p⟩ := PostE.liftO p
  obtain ⟨fn, e2, p⟩ := PostE.liftO p
  exact ⟨n, c, fs, ms, fn, e, hm, e1, e2, p⟩
theorem snd_meth (kl : Kl C X.K X.mg) {k lv : Nat} {y : Str} {e : Expr} {es : List Expr} {gs : Sl → M → RE (List W)} {gf : Nat → List W → M → RE W} (FM : FoM C Γ X.prog X.w X.K X.mg X.base lv gf) (hr : Room lv X.A) (hy : C.mn[k]? = some y) (hb : noBase a = true) (hl : (apos.endLine == pos.line) = true) (hlen : (e :: es).length < 20) (ha : Snd X C a ga) (hs : SndA X C (e :: es) gs) (hn : Nice e) :
    Snd X C (.Call (.Attribute a y apos) (e :: es) [] pos) (fun σ m => REbind (ga σ m) fun x m1 => methF Γ x k m1 fun f => REbind (noExc (gs σ m1)) fun ws m2 => ifB (Nat.beq (ws.length + 1) f.2) (noExc (gf f.1 (x :: ws) m2)) (.er (.stuck 36))) := by
  obtain ⟨pl, ht⟩ := meth_ev (y := y) (es := e :: es) (env := X.env) (apos := apos) (pos := pos) hb hl (few_of (hs.nos pos) hlen)
  refine Snd.val ⟨fun _ _ => rfl, fun _ _ => rfl, fun _ _ => rfl, fun op => by cases op <;> rfl, fun _ _ _ => rfl, fun _ _ _ _ => rfl⟩ ((pe_methA ha.pe hr noLam hs.pa (hn.star _ _) (by have := hs.nos pos; rw [hn.star] at this; exact this) ht).mono fun σ H Q ⟨ι, σ', m, s, S, pp⟩ => ?_) fun _ => rfl
  refine tG_bind s S pp fun ι1 H1 w v m1 l1 t1 s1 S1 r1 p1 => ?_
  obtain ⟨n, c, fs, ms, fn, rfl, hm, e1, e2, p1⟩ := methF_inv p1
  cases r1 with
  | ref hnn =>
    obtain ⟨dx, vs, x, h0, h1, h2⟩ := ins_at S1 hnn hm
    obtain ⟨y', fd, ps, hy', hM, F, hB⟩ := (FM c k fn.1 fn.2 x ms h0 e1 e2).ok
    rw [hy] at hy'; cases hy'
    refine ⟨_, _, dx, vs, _, fd, ps, _, rfl, h1, repF_no (kl.dj y (List.mem_of_getElem? hy)) h2, kl.cls c x h0, hM, F, hB, ?_⟩
    refine ⟨ι1, σ', m1, s1, S1, PostE.mono (fun ws m2 p2 ι2 H2 us S2 l2 t2 r2 => ?_) (PostE.noExc (PostE.bind p1))⟩
    obtain ⟨hl, p2⟩ := PostE.ifF p2
    refine ⟨?_, ι2, m2, .ref n :: ws, S2, .cons (.ref (l2 _ _ hnn)) (by rw [List.append_nil]; exact r2), PostX.mono (fun a m => QV.base (l1.trans l2) (t1.trans t2)) (fun a m => QX.base (l1.trans l2) (t1.trans t2)) (PostE.toX (PostE.noExc p2))⟩
    rw [List.append_nil, List.length_cons, ← r2.length]
    exact Nat.eq_of_beq_eq_true hl
theorem snd_meth0 (kl : Kl C X.K X.mg) {k lv : Nat} {y : Str} {gf : Nat → List W → M → RE W} (FM : FoM C Γ X.prog X.w X.K X.mg X.base lv gf) (hr : Room lv X.A) (hy : C.mn[k]? = some y) (hb : noBase a = true) (hl : (apos.endLine == pos.line) = true) (ha : Snd X C a ga) :
    Snd X C (.Call (.Attribute a y apos) [] [] pos) (fun σ m => REbind (ga σ m) fun x m1 => methF Γ x k m1 fun f => REbind (noExc (.ok [] m1)) fun ws m2 => ifB (Nat.beq (ws.length + 1) f.2) (noExc (gf f.1 (x :: ws) m2)) (.er (.stuck 36))) := by
  obtain ⟨pl, ht⟩ := meth_ev (y := y) (es := []) (env := X.env) (apos := apos) (pos := pos) hb hl (by rfl)
  refine Snd.val ⟨fun _ _ => rfl, fun _ _ => rfl, fun _ _ => rfl, fun op => by cases op <;> rfl, fun _ _ _ => rfl, fun _ _ _ _ => rfl⟩ ((pe_methA0 ha.pe hr noLam ht).mono fun σ H Q ⟨ι, σ', m, s, S, pp⟩ => ?_) fun _ => rfl
  refine tG_bind s S pp fun ι1 H1 w v m1 l1 t1 s1 S1 r1 p1 => ?_
  obtain ⟨n, c, fs, ms, fn, rfl, hm, e1, e2, p1⟩ := methF_inv p1
  cases r1 with
  | ref hnn =>
    obtain ⟨dx, vs, x, h0, h1, h2⟩ := ins_at S1 hnn hm
    obtain ⟨y', fd, ps, hy', hM, F, hB⟩ := (FM c k fn.1 fn.2 x ms h0 e1 e2).ok
    rw [hy] at hy'; cases hy'
    have p2 : PostE (QV X.K C ι H Q) (ifB (Nat.beq 1 fn.2) (noExc (gf fn.1 [.ref n] m1)) (.er (.stuck 36))) := p1
    obtain ⟨hl, p2⟩ := PostE.ifF p2
    refine ⟨_, _, dx, vs, _, fd, ps, _, rfl, h1, repF_no (kl.dj y (List.mem_of_getElem? hy)) h2, kl.cls c x h0, hM, F, hB, ?_⟩
    exact ⟨Nat.eq_of_beq_eq_true hl, ι1, m1, [.ref n], S1, .cons (.ref hnn) .nil, PostX.mono (fun a m => QV.base l1 t1) (fun a m => QX.base l1 t1) (PostE.toX (PostE.noExc p2))⟩
/-- C(..) -/
theorem snd_mkI {c lv f np : Nat} {x : Str} {e : Expr} {es : List Expr} {ms : List (Nat × Nat × Nat)} {gs : Sl → M → RE (List W)} {gf : Nat → List W → M → RE W} (h1 : nth Γ.cl c = some ms) (h2 : methOf 0 ms = some (f, np)) (FM : FoM C Γ X.prog X.w X.K X.mg X.base lv gf) (kl : Kl C X.K X.mg) (hr : Room (lv + 1) X.A) (hx : C.cn[c]? = some x) (hg : Gl X x) (hdb : (x == ("__debug__" : Str)) = false) (hs : SndA X C (e :: es) gs) (hn : Nice e) :
    Snd X C (.Call (.Name x p) (e :: es) [] pos) (fun σ m => REbind (noExc (gs σ m)) fun ws m1 => liftO 44 (nth Γ.cl c) fun ms => liftO 44 (methOf 0 ms) fun f => ifB (Nat.beq (ws.length + 1) f.2)
      (REbind (noExc (gf f.1 (.ref m1.next :: ws) (m1.new (.ins c [])))) fun w m2 => onNon w (.ok (.ref m1.next) m2)) (.er (.stuck 36))) := by
  have A := FM c 0 f np x ms hx h1 h2
  obtain ⟨y, fd, ps, _, _, F, hB⟩ := A.ok
  refine Snd.val ⟨fun _ _ => rfl, fun _ _ => rfl, fun _ _ => rfl, fun op => by cases op <;> rfl, fun _ _ _ => rfl, fun _ _ _ _ => rfl⟩ ((pe_make (A.mke rfl) F hr hg (kl.mg c x hx) hB .nil noLam hs.pa hdb (hn.star _ _) (by have := hs.nos pos; rw [hn.star] at this; exact this)).mono fun σ H Q ⟨ι, σ', m, s, S, p⟩ => ?_) fun _ => rfl
  refine ⟨ι, σ', m, s, S, PostE.mono (fun ws m1 p1 ι1 H1 us S1 l1 t1 r1 b dx hb hdx hne => ?_) (PostE.noExc (PostE.bind p))⟩
  rw [h1] at p1
  have p1 : PostE (QV X.K C ι H Q) (liftO 44 (methOf 0 ms) fun f => ifB (Nat.beq (ws.length + 1) f.2) (REbind (noExc (gf f.1 (.ref m1.next :: ws) (m1.new (.ins c [])))) fun w m2 => onNon w (.ok (.ref m1.next) m2)) (.er (.stuck 36))) := p1
  rw [h2] at p1
  have p1 : PostE (QV X.K C ι H Q) (ifB (Nat.beq (ws.length + 1) np) (REbind (noExc (gf f (.ref m1.next :: ws) (m1.new (.ins c [])))) fun w m2 => onNon w (.ok (.ref m1.next) m2)) (.er (.stuck 36))) := p1
  obtain ⟨hl, p1⟩ := PostE.ifF p1
  have Sa := simH_add S1 (u := .own b) hdx
  have ta : Tk X.K H1 (upd H1 dx (.own b)) := tk_new hdx
  have hb2 : upd H1 dx (.own b) b = none := by rw [upd_ne (Ne.symm hne)]; exact hb
  have tb : Tk X.K (upd H1 dx (.own b)) (upd (upd H1 dx (.own b)) b (.ins (C.cl c) dx [])) := tk_new hb2
  have l2 : Le ι1 (ext ι1 m1.next b) := ext_le Sa.none_next
  have Sb : SimH X.K C (ext ι1 m1.next b) (m1.new (.ins c [])) (upd (upd H1 dx (.own b)) b (.ins (C.cl c) dx [])) := Sa.new hb2 ⟨dx, [], x, hx, upd_same, .nil⟩
  refine ⟨?_, ext ι1 m1.next b, m1.new (.ins c []), .ref m1.next :: ws, Sb, .cons (.ref ext_same) (by rw [List.append_nil]; exact r1.mono (ta.trans tb) l2), PostE.toX (PostE.mono (fun w m2 p2 ι2 H2 v S2 l3 t3 r2 => ?_) (PostE.noExc (PostE.bind p1)))⟩
  · rw [List.append_nil, List.length_cons, ← r1.length]
    exact Nat.eq_of_beq_eq_true hl
  · cases w with
    | non =>
      cases r2
      exact ⟨rfl, p2 ι2 H2 (.ref b) S2 ((l1.trans l2).trans l3) ((t1.trans (ta.trans tb)).trans t3) (.ref (l3 _ _ ext_same))⟩
    | _ => exact p2.elim
end
end
end Jw

/-! o.items() of a locked dict whose keys are tuples. -/
namespace Jw
open PySem PySem.Spec PyProof.Rows L2
noncomputable section
/-- the pairs, each a new tuple; the key is its own tuple -/
def ItiT (d : Addr) (o : Obj) (kvs : List (List L2.Key × V)) : L2.It :=
  ⟨fun j G => G d = some (.frz o (.dT kvs)) ∧ j < kvs.length,
   fun j G x G' => ∃ (b q : Addr) (k : List L2.Key) (v : V), kvs[j]? = some (k, v) ∧ x = .ref b ∧ G b = none ∧ G q = some (.tup (k.map kV)) ∧ G' = upd G b (.tup [.ref q, v]),
   fun j G => G d = some (.frz o (.dT kvs)) ∧ kvs.length ≤ j⟩
/-- what stands at d -/
theorem frz_raw {X : Cx} {pins : List (Addr × Obj)} {σ : L2.St} {H : Hp} {s : Shared} {d : Addr} {o : Obj} {kvs : List (List L2.Key × V)} (I : L2.Inv X pins σ H s) (h : H d = some (.frz o (.dT kvs))) :
    (d == sysModules) = false ∧ ∃ (es : Array DictEntry) (ep : Nat), o.data = .dict es ep ∧ DT.Raw s.heap d es ep ∧ es.size = kvs.length ∧ o.ExactDict ∧
      ∀ (j : Nat) (k : List L2.Key) (v : V), kvs[j]? = some (k, v) → ∃ (en : DictEntry) (q : Addr), es[j]? = some en ∧ en.key = .ref q ∧ H q = some (.tup (k.map kV)) ∧ L2.RelV v en.val := by
  obtain ⟨hs, hgd, hx, _⟩ := I.frzT h
  obtain ⟨z, lo, xs', rel, o2, es, ep, ho, hx2, hdat, hes, his, hn⟩ := dt_rd I.hok (.inr ⟨o, h⟩)
  rw [hgd] at ho
  cases ho
  have l1 : kvs.length = xs'.length := Paired.length rel
  have l2 : es.size = xs'.length := size_of_entries hes
  refine ⟨hs, es, ep, hdat, ⟨_, hgd, hx, hdat⟩, by omega, hx, fun j k v e => ?_⟩
  cases hxj : xs'[j]? with
  | none =>
    have g1 := (List.getElem?_eq_some_iff.mp e).1
    have g2 := List.getElem?_eq_none_iff.mp hxj
    omega
  | some x =>
    obtain ⟨e0, he0, r1, r2, r3⟩ := DX.pget rel hxj
    rw [e] at he0
    cases he0
    have he := entry_at hes j
    rw [hxj] at he
    exact ⟨_, _, he, rfl, r2, r3⟩
theorem turn_itemsT {P : Program} {w : World} {K : PySem.W.Frag} {d : Addr} {o : Obj} {es : Array DictEntry} {ep : Nat} {kvs : List (List L2.Key × V)} {elts : List Expr} {kk : Nat} {tpos : Pos} (it : Addr) (hod : o.data = .dict es ep) :
    Turn P w K (.Tuple elts kk tpos) (ItiT d o kvs) [it] it (fun j h => ∃ ok ov, IsItemIter h it d j kvs.length ep ok ov) where
  mem := by simp
  obj := fun j h st b hb => by
    rw [show b = it from by simpa using hb]
    obtain ⟨ok, ov, e⟩ := st
    exact ⟨_, e, fun v z => nomatch z⟩
  keep := fun j h h' st k => let ⟨ok, ov, e⟩ := st; ⟨ok, ov, k it (by simp) _ e⟩
  item := by
    intro X e1 e2 e3 calm j pins s σ G E I free st go
    subst e1 e2 e3
    obtain ⟨hd, hj⟩ := go
    obtain ⟨hs, es2, ep2, hod2, raw, hsz, hx, ent⟩ := frz_raw I hd
    rw [hod] at hod2
    cases hod2
    obtain ⟨⟨k, v⟩, hkv⟩ : ∃ p, kvs[j]? = some p := ⟨kvs[j], List.getElem?_eq_getElem hj⟩
    obtain ⟨en, q, hen, hkey, hq, rv⟩ := ent j k v hkv
    obtain ⟨ok, ov, hit⟩ := st
    rw [← hsz] at hit
    have hlt : it < s.heap.objs.size := Heap.lt_size hit
    have hj2 : j < es.size := by omega
    have een : es[j] = en := by rw [Array.getElem?_eq_getElem hj2] at hen; exact Option.some.inj hen
    refine DT.nextI (es := es) (ep := ep) hit raw hj2 fun g1 out tup _ kp => ?_
    refine ⟨.ref s.heap.objs.size, rfl, wpAny_letOwnedTupleGo_items (s := { s with heap := g1 }) out fun g2 back sb => ?_⟩
    have tup2 : g2.get? s.heap.objs.size = some { cls := .type "tuple", data := .seq #[.ref q, en.val] } := (sb.2 _ (Nat.ne_of_gt hlt)).trans (by rw [tup, een, hkey])
    have obj : ObjOk X.prog X.w (upd G s.heap.objs.size (.tup [.ref q, v])) g2 s.heap.objs.size (.tup [.ref q, v]) := ⟨by rw [sizeLine_eq]; show 2 ≤ 16777216; omega, [.ref q, en.val], .cons rfl (.cons rv .nil), ⟨_, tup2, rfl, _, rfl⟩⟩
    have J : L2.Inv X pins σ (upd G s.heap.objs.size (.tup [.ref q, v])) { s with heap := g2 } := I.turnedNew (t' := s.toks) (ch := [it]) (fun b ob nb e => (sb.2 b (by simpa using nb)).trans (kp b ob (by simpa using nb) e)) free (Nat.le_refl _) obj
    refine ⟨.ref s.heap.objs.size, _, J, rfl, ⟨_, q, k, v, hkv, rfl, I.hok.fresh (Nat.le_refl _), hq, rfl⟩, ⟨en.key, en.val, ?_⟩, fun b hb => ?_⟩
    · rw [← hsz]
      rw [← een]
      exact back
    · rw [show b = it from by simpa using hb, upd_ne (Nat.ne_of_lt hlt)]
      exact (free it (by simp)).1
  done := by
    intro X e1 e2 e3 calm j pins s σ G E I free st stop
    subst e1 e2 e3
    obtain ⟨hd, hj⟩ := stop
    obtain ⟨f0, f1, f2, f3, f4, f5⟩ := free it (by simp)
    obtain ⟨hs, es2, ep2, hod2, raw, hsz, hx, _⟩ := frz_raw I hd
    rw [hod] at hod2
    cases hod2
    obtain ⟨ok, ov, hit⟩ := st
    rw [← hsz] at hit
    exact DT.endI (I.ok.hd calm) hit raw (by omega) fun g1 ext => ⟨rfl, I.turned (t' := s.toks) (fun b ob nb e => ext b ob nb e) f0 f1 f3 f4 f5⟩
  self := fun A j s Q E st h => let ⟨_, _, e⟩ := st; PySem.W.kcp_self e h
theorem pi_itemsA {X : Cx} {e : Expr} {td : TE} {apos cpos : Pos} {elts : List Expr} {kk : Nat} {tpos : Pos} (he : PE X e td) (hbase : attributeBase e "items" X.env (eval e X.env) = eval e X.env) (hline : (apos.endLine == cpos.line) = true) :
    PI X (.Tuple elts kk tpos) (.Call (.Attribute e "items" apos) [] [] cpos) (fun σ G R => td σ G fun x G1 => ∃ d o, x = .ref d ∧ ((∃ kvs, G1 d = some (.frz o (.dK kvs)) ∧ R (Iti d o kvs) G1) ∨ ∃ kvs, G1 d = some (.frz o (.dT kvs)) ∧ R (ItiT d o kvs) G1)) :=
  ⟨fun pins s σ G R I h => wpAny_Call_method (T := "dict") (id := "dict.items") hbase rfl hline F.plainAttrs_dict F.slot_dict_items F.type_dict_items (thn (he.run pins s σ G _ I h) fun u s1 ⟨x, G1, I1, rx, d, o, ex, alt⟩ => by
    subst ex
    obtain rfl : u = Value.ref d := rx
    have I2 : L2.Inv X pins σ G1 { s1 with heap := s1.heap.push { cls := .type "dict_items", data := .fields #[.ref d] } } := I1.kept (t' := s1.toks) fun b ob z => Heap.get?_push_of_some _ z
    have key : ∀ {es : Array DictEntry} {ep : Nat}, (d == sysModules) = false → s1.heap.get? d = some o → o.ExactDict → DT.Raw s1.heap d es ep →
        (PIE X pins σ (.Tuple elts kk tpos) R (.ref (s1.heap.push { cls := .type "dict_items", data := .fields #[.ref d] }).objs.size) { s1 with heap := (s1.heap.push { cls := .type "dict_items", data := .fields #[.ref d] }).push { cls := .type "dict_itemiterator", data := .fields #[.none, .bool false, .ref d, .int 0 0, .int es.size 0, .int ep 0, .none, .none] } }) →
        s1.TypeIs (.ref d) "dict" ∧ (∀ a : Addr, Value.ref d = Value.ref a → ∃ ob, s1.heap.get? a = some ob ∧ ob.dict = none) ∧ wpAny (model X.prog X.w) X.A (callWith cpos (.builtin "dict.items") [.ref d] [] []) (fun v s2 => wpAny (model X.prog X.w) X.A (pyIter v) (PIE X pins σ (.Tuple elts kk tpos) R) X.xe s2) X.xe s1 := fun {es ep} hs hgd hx raw q => by
      refine ⟨raw.typeIs, fun a0 e0 => by cases e0; exact ⟨o, hgd, hx.2.1⟩, ?_⟩
      exact method_meetsIn F.slot_dict_items F.entry_dict_items rfl (PySem.evalArgs_none ⟨rfl, raw.typeIs, F.args_dict_items_1 _, _, DT.meetsItems (es := es) (ep := ep) hs, raw, DT.iterI (d := d) (es := es) (ep := ep) ⟨_, Heap.get?_push_size _ rfl, rfl, rfl⟩ (raw.push _) q⟩)
    rcases alt with ⟨kvs, hd, q⟩ | ⟨kvs, hd, q⟩
    · obtain ⟨hs, hgd, hx, es, ep, vs, hod, hsz, kv, hm⟩ := I1.frzK hd
      exact key hs hgd hx ⟨_, hgd, hx, hod⟩ (pi_one (tk := s1.toks) I2 _ (turn_items _ hod) ⟨.none, .none, by rw [← hsz]; exact Heap.get?_push_size _ rfl⟩ q)
    · obtain ⟨hs, es, ep, hod, raw, hsz, hx, _⟩ := frz_raw I1 hd
      obtain ⟨_, hgd, _⟩ := I1.frzT hd
      exact key hs hgd hx raw (pi_one (tk := s1.toks) I2 _ (turn_itemsT _ hod) ⟨.none, .none, by rw [← hsz]; exact Heap.get?_push_size _ rfl⟩ q))⟩
end
end Jw

/-! for x in d: the dict is locked while it is walked. -/
namespace Jw
open PySem PySem.Spec PyProof.Rows L2
noncomputable section
/-- the pairs of a display -/
inductive RepPs (C : Cn) (T : Addr → List V → Prop) (ι : Im) : List (W × W) → List (V × V) → Prop
  | nil : RepPs C T ι [] []
  | cons {a b : W} {x y : V} {l : List (W × W)} {r : List (V × V)} : RepV C T ι a x → RepV C T ι b y → RepPs C T ι l r → RepPs C T ι ((a, b) :: l) ((x, y) :: r)
theorem RepPs.length {C : Cn} {T : Addr → List V → Prop} {ι : Im} : ∀ {l : List (W × W)} {r : List (V × V)}, RepPs C T ι l r → l.length = r.length
  | _, _, .nil => rfl
  | _, _, .cons _ _ t => by rw [List.length_cons, List.length_cons, RepPs.length t]
theorem _root_.L2.PI.or {X : Cx} {tg iter : Expr} {t t' : TI} (h : PI X tg iter t) (h' : PI X tg iter t') : PI X tg iter (fun σ H R => t σ H R ∨ t' σ H R) := ⟨fun pins s σ H R I q => q.elim (h.run pins s σ H R I) (h'.run pins s σ H R I)⟩
theorem _root_.L2.PS.or {X : Cx} {st : Stmt} {t t' : TS} (h : PS X st t) (h' : PS X st t') : PS X st (fun D σ H => t D σ H ∨ t' D σ H) := ⟨fun pins s σ H D I q => q.elim (h.run pins s σ H D I) (h'.run pins s σ H D I)⟩
/-- what stands at d is let go -/
def Free (d : Addr) (H' : Hp) (k : Hp → Prop) : Prop := ∃ od u, H' d = some (.frz od u) ∧ k (upd H' d u)
def tLock2 (t : TS) : TS := fun D σ H => ∃ d u, H d = some u ∧ Mut (some u) ∧ ∀ od, t ⟨fun σ' H' => Free d H' (D.nx σ'), fun v H' => Free d H' (D.rt v), fun σ' H' => Free d H' (D.bk σ'), fun σ' H' => Free d H' (D.ct σ')⟩ σ (upd H d (.frz od u))
section
variable {X : Cx} {C : Cn} {K : PySem.W.Frag} {ι : Im} {H : Hp} {m : M} {Q : VK} {Γ : Pg} {a b : Expr} {ga gb : Sl → M → RE W} {pos p apos cpos : Pos} {E : XK}
theorem ps_lock2 {st : Stmt} {t : TS} (h : PS X st t) : PS X st (tLock2 t) := by
  refine ⟨fun pins s σ H D I hw => ?_⟩
  obtain ⟨d, u, hd, mu, hw⟩ := hw
  obtain ⟨od, I1⟩ := I.lock hd mu
  refine thn (h.run pins s σ _ _ I1 (hw od)) fun f s1 q => ?_
  cases f with
  | next => obtain ⟨σ', H', I2, od', u', e, q⟩ := q; exact ⟨σ', _, I2.unlock e (I.nofrz hd mu), q⟩
  | brk => obtain ⟨σ', H', I2, od', u', e, q⟩ := q; exact ⟨σ', _, I2.unlock e (I.nofrz hd mu), q⟩
  | cont => obtain ⟨σ', H', I2, od', u', e, q⟩ := q; exact ⟨σ', _, I2.unlock e (I.nofrz hd mu), q⟩
  | ret v => obtain ⟨x, σ', H', I2, r, od', u', e, q⟩ := q; exact ⟨x, σ', _, I2.unlock e (I.nofrz hd mu), r, q⟩
/-! ### the walk -/
/-- what is told of a locked dict -/
inductive Frz1 (C : Cn) (K : PySem.W.Frag) (ι : Im) (H : Hp) (d : Addr) : Bool → List (W × W) → Prop
  | k {od : Obj} {ks : List (L2.Key × V)} {kvs : List (W × W)} : H d = some (.frz od (.dK ks)) → RepK C (TT' K H) ι (KR C) kvs ks → Frz1 C K ι H d false kvs
  | t {od : Obj} {ks : List (List L2.Key × V)} {kvs : List (W × W)} : H d = some (.frz od (.dT ks)) → RepK C (TT' K H) ι (KRT C) kvs ks → Frz1 C K ι H d true kvs
theorem frd_at (S : SimH K C ι m H) {n : Ad} {d : Addr} {t : Bool} {kvs : List (W × W)} (hn : ι n = some d) (e : m.get n = some (.frd t kvs)) : Frz1 C K ι H d t kvs := by
  obtain ⟨a', e1, e2⟩ := S.ob n _ e
  rw [hn] at e1; cases e1
  cases t with
  | false => obtain ⟨od, ks, h1, h2⟩ := e2; exact .k h1 h2
  | true => obtain ⟨od, ks, h1, h2⟩ := e2; exact .t h1 h2
theorem atD_inv {n : Ad} {f : List (W × W) → Option W} {o : Option W} (h : atD n f m = .ok o) : ∃ t kvs, m.get n = some (.frd t kvs) ∧ f kvs = o := by
  unfold atD at h
  split at h
  · rename_i e
    injection h with h
    exact ⟨_, _, e, h⟩
  · cases h
theorem repK_at {T : Addr → List V → Prop} {κ : Type} {R : W → κ → Prop} : ∀ {l : List (W × W)} {r : List (κ × V)} {i : Nat} {q : W × W}, RepK C T ι R l r → l[i]? = some q → ∃ k v, r[i]? = some (k, v) ∧ R q.1 k ∧ RepV C T ι q.2 v
  | _, _, _, _, .nil, e => by simp at e
  | _, _, 0, _, .cons g h _, e => by simp at e; subst e; exact ⟨_, _, rfl, g, h⟩
  | _, _, i + 1, _, .cons _ _ t, e => by
    obtain ⟨k, v, h1, h2⟩ := repK_at (i := i) t (by simpa using e)
    exact ⟨k, v, by simpa using h1, h2⟩
/-- a locked dict of ints and texts stays -/
theorem same_k {n : Ad} {d : Addr} {od : Obj} {ks : List (L2.Key × V)} (hn : ι n = some d) (hd : H d = some (.frz od (.dK ks))) {ι' : Im} {H' : Hp} {m : M} {t : Bool} {kvs : List (W × W)} (l : Le ι ι') (tk : Tk K H H') (S : SimH K C ι' m H') (e : m.get n = some (.frd t kvs)) :
    H' d = some (.frz od (.dK ks)) ∧ RepK C (TT' K H') ι' (KR C) kvs ks := by
  have h1 := tk.frz _ _ _ hd
  cases frd_at S (l n d hn) e with
  | k e2 e3 => rw [h1] at e2; cases e2; exact ⟨h1, e3⟩
  | t e2 e3 => rw [h1] at e2; cases e2
theorem same_t {n : Ad} {d : Addr} {od : Obj} {ks : List (List L2.Key × V)} (hn : ι n = some d) (hd : H d = some (.frz od (.dT ks))) {ι' : Im} {H' : Hp} {m : M} {t : Bool} {kvs : List (W × W)} (l : Le ι ι') (tk : Tk K H H') (S : SimH K C ι' m H') (e : m.get n = some (.frd t kvs)) :
    H' d = some (.frz od (.dT ks)) ∧ RepK C (TT' K H') ι' (KRT C) kvs ks := by
  have h1 := tk.frz _ _ _ hd
  cases frd_at S (l n d hn) e with
  | k e2 e3 => rw [h1] at e2; cases e2
  | t e2 e3 => rw [h1] at e2; cases e2; exact ⟨h1, e3⟩
theorem nth_none {α β : Type} {f : α → β} {l : List α} {i : Nat} (e : (Option.rec none (fun p => some (f p)) (nth l i) : Option β) = none) : l.length ≤ i := by
  rw [nth_eq] at e
  cases h : l[i]? with
  | none => exact List.getElem?_eq_none_iff.mp h
  | some q => rw [h] at e; cases e
theorem nth_some {α β : Type} {f : α → β} {l : List α} {i : Nat} {w : β} (e : (Option.rec none (fun p => some (f p)) (nth l i) : Option β) = some w) : ∃ q, l[i]? = some q ∧ f q = w := by
  rw [nth_eq] at e
  cases h : l[i]? with
  | none => rw [h] at e; cases e
  | some q => rw [h] at e; cases e; exact ⟨q, rfl, rfl⟩
theorem iv_dic {n : Ad} {d : Addr} {od : Obj} {ks : List (L2.Key × V)} (hn : ι n = some d) (hd : H d = some (.frz od (.dK ks))) : IvOk K C ι H (.dic n) (Itk d od ks) := by
  refine ⟨fun ι' H' m i l t S e => ?_, fun ι' H' m i w l t S e => ?_⟩
  · obtain ⟨_, kvs, e1, e2⟩ := atD_inv (show atD n (fun kvs => Option.rec none (fun p => some p.1) (nth kvs i)) m = .ok none from e)
    obtain ⟨h1, h2⟩ := same_k hn hd l t S e1
    exact ⟨h1, by rw [← h2.length]; exact nth_none e2⟩
  · obtain ⟨_, kvs, e1, e2⟩ := atD_inv (show atD n (fun kvs => Option.rec none (fun p => some p.1) (nth kvs i)) m = .ok (some w) from e)
    obtain ⟨h1, h2⟩ := same_k hn hd l t S e1
    obtain ⟨q, h, rfl⟩ := nth_some e2
    obtain ⟨k, v, g1, g2, _⟩ := repK_at h2 h
    refine ⟨⟨h1, by rw [← h2.length]; exact (List.getElem?_eq_some_iff.mp h).1⟩, fun x H2 y => ?_⟩
    obtain ⟨rfl, k', v', g3, rfl⟩ := y
    rw [g1] at g3; cases g3
    exact ⟨S, Tk.refl _ _, kR_rep g2⟩
theorem iv_dicT {n : Ad} {d : Addr} {od : Obj} {ks : List (List L2.Key × V)} (hn : ι n = some d) (hd : H d = some (.frz od (.dT ks))) : IvOk K C ι H (.dic n) (Itkt d od ks) := by
  refine ⟨fun ι' H' m i l t S e => ?_, fun ι' H' m i w l t S e => ?_⟩
  · obtain ⟨_, kvs, e1, e2⟩ := atD_inv (show atD n (fun kvs => Option.rec none (fun p => some p.1) (nth kvs i)) m = .ok none from e)
    obtain ⟨h1, h2⟩ := same_t hn hd l t S e1
    exact ⟨h1, by rw [← h2.length]; exact nth_none e2⟩
  · obtain ⟨_, kvs, e1, e2⟩ := atD_inv (show atD n (fun kvs => Option.rec none (fun p => some p.1) (nth kvs i)) m = .ok (some w) from e)
    obtain ⟨h1, h2⟩ := same_t hn hd l t S e1
    obtain ⟨q, h, rfl⟩ := nth_some e2
    obtain ⟨k, v, g1, g2, _⟩ := repK_at h2 h
    refine ⟨⟨h1, by rw [← h2.length]; exact (List.getElem?_eq_some_iff.mp h).1⟩, fun x H2 y => ?_⟩
    obtain ⟨rfl, k', v', b, g3, rfl, hb⟩ := y
    rw [g1] at g3; cases g3
    refine ⟨S, Tk.refl _ _, ?_⟩
    generalize q.1 = q1 at g2 ⊢
    cases g2 with
    | mk g2 => exact .tup hb (kRs_rep g2)
theorem iv_val {n : Ad} {d : Addr} {od : Obj} {ks : List (L2.Key × V)} (hn : ι n = some d) (hd : H d = some (.frz od (.dK ks))) : IvOk K C ι H (.val n) (Itd d od ks) := by
  refine ⟨fun ι' H' m i l t S e => ?_, fun ι' H' m i w l t S e => ?_⟩
  · obtain ⟨_, kvs, e1, e2⟩ := atD_inv (show atD n (fun kvs => Option.rec none (fun p => some p.2) (nth kvs i)) m = .ok none from e)
    obtain ⟨h1, h2⟩ := same_k hn hd l t S e1
    exact ⟨h1, by rw [← h2.length]; exact nth_none e2⟩
  · obtain ⟨_, kvs, e1, e2⟩ := atD_inv (show atD n (fun kvs => Option.rec none (fun p => some p.2) (nth kvs i)) m = .ok (some w) from e)
    obtain ⟨h1, h2⟩ := same_k hn hd l t S e1
    obtain ⟨q, h, rfl⟩ := nth_some e2
    obtain ⟨k, v, g1, _, g2⟩ := repK_at h2 h
    refine ⟨⟨h1, by rw [← h2.length]; exact (List.getElem?_eq_some_iff.mp h).1⟩, fun x H2 y => ?_⟩
    obtain ⟨rfl, k', g3⟩ := y
    rw [g1] at g3; cases g3
    exact ⟨S, Tk.refl _ _, g2⟩
theorem iv_itm {n : Ad} {d : Addr} {od : Obj} {ks : List (L2.Key × V)} (hn : ι n = some d) (hd : H d = some (.frz od (.dK ks))) : IvOk K C ι H (.itm n) (Iti d od ks) := by
  refine ⟨fun ι' H' m i l t S e => ?_, fun ι' H' m i w l t S e => ?_⟩
  · obtain ⟨_, kvs, e1, e2⟩ := atD_inv (show atD n (fun kvs => Option.rec none (fun p => some (.tup [p.1, p.2])) (nth kvs i)) m = .ok none from e)
    obtain ⟨h1, h2⟩ := same_k hn hd l t S e1
    exact ⟨h1, by rw [← h2.length]; exact nth_none e2⟩
  · obtain ⟨_, kvs, e1, e2⟩ := atD_inv (show atD n (fun kvs => Option.rec none (fun p => some (.tup [p.1, p.2])) (nth kvs i)) m = .ok (some w) from e)
    obtain ⟨h1, h2⟩ := same_k hn hd l t S e1
    obtain ⟨q, h, rfl⟩ := nth_some e2
    obtain ⟨k, v, g1, g2, g4⟩ := repK_at h2 h
    refine ⟨⟨h1, by rw [← h2.length]; exact (List.getElem?_eq_some_iff.mp h).1⟩, fun x H2 y => ?_⟩
    obtain ⟨T, k', v', g3, rfl, hT, rfl⟩ := y
    rw [g1] at g3; cases g3
    exact ⟨simH_tup S hT, tk_new hT, .tup upd_same (.cons (kR_rep g2) (.cons (g4.mono (tk_new hT) (Le.refl _)) .nil))⟩
/-- a variable is walked -/
theorem sndi_var {tg : Expr} {i : Nat} (ha : Snd X C a (fun σ m => evVr i σ m)) : SndI X C tg a (fun σ m => REbind (evVr i σ m) fun w m1 => liftI (seqIvD m1 w) m1) :=
  ⟨ha.nice.fold, ((sndi_seq (tg := tg) ha).pi.or (pi_keys ha.pe)).mono fun σ H R ⟨ι, σ', m, s, S, p⟩ => by
    by_cases hf : ∃ n t kvs, nth σ' i = some (some (.ref n)) ∧ m.get n = some (.frd t kvs)
    · obtain ⟨n, t, kvs, hs, hm⟩ := hf
      have ev : evVr i σ' m = .ok (.ref n) m := by unfold evVr; rw [hs]; rfl
      have e : (REbind (evVr i σ' m) fun w m1 => liftI (seqIvD m1 w) m1) = .ok (.dic n) m := by
        rw [ev]
        show liftI (seqIvD m (.ref n)) m = _
        unfold seqIvD
        dsimp only
        rw [hm]; rfl
      have p2 : PostE (fun v m1 => ∀ ι1 H1, SimH X.K C ι1 m1 H1 → Le ι ι1 → Tk X.K H H1 → ∀ J, IvOk X.K C ι1 H1 v J → R J H1) (REbind (evVr i σ' m) fun w m1 => liftI (seqIvD m1 w) m1) := p
      rw [e] at p2
      refine .inr ⟨ι, σ', m, s, S, ?_⟩
      show PostE _ (evVr i σ' m)
      rw [ev]
      intro ι1 H1 v S1 l1 t1 r1
      cases r1 with
      | ref hn =>
        cases frd_at S1 hn hm with
        | k h1 h2 => exact ⟨_, _, rfl, .inl ⟨_, h1, p2 ι1 H1 S1 l1 t1 _ (iv_dic hn h1)⟩⟩
        | t h1 h2 => exact ⟨_, _, rfl, .inr ⟨_, h1, p2 ι1 H1 S1 l1 t1 _ (iv_dicT hn h1)⟩⟩
    · refine .inl ⟨ι, σ', m, s, S, ?_⟩
      have e : (REbind (evVr i σ' m) fun w m1 => liftI (seqIvD m1 w) m1) = REbind (evVr i σ' m) fun w m1 => liftI (seqIv m1 w) m1 := by
        unfold evVr
        cases h1 : nth σ' i with
        | none => rfl
        | some o =>
          cases o with
          | none => rfl
          | some w =>
            show liftI (seqIvD m w) m = liftI (seqIv m w) m
            cases w with
            | ref n =>
              unfold seqIvD
              dsimp only
              split
              · rename_i t kvs e
                exact (hf ⟨n, t, kvs, h1, e⟩).elim
              · rfl
            | _ => rfl
      have p2 : PostE (fun v m1 => ∀ ι1 H1, SimH X.K C ι1 m1 H1 → Le ι ι1 → Tk X.K H H1 → ∀ J, IvOk X.K C ι1 H1 v J → R J H1) (REbind (evVr i σ' m) fun w m1 => liftI (seqIvD m1 w) m1) := p
      rw [e] at p2
      exact p2⟩
/-! ### o.items(), o.values(): the dict is locked for good -/
theorem pe_dlock {e : Expr} {td : TE} (h : PE X e td) : PE X e (fun σ H Q => td σ H fun x H1 => Q x H1 ∨ ∃ d u, x = .ref d ∧ H1 d = some u ∧ Mut (some u) ∧ ∀ od, Q x (upd H1 d (.frz od u))) := by
  refine ⟨fun pins s σ H Q I hw => ?_⟩
  refine thn (h.run pins s σ H _ I hw) fun v s1 ⟨x, H1, I1, r, q⟩ => ?_
  rcases q with q | ⟨d, u, rfl, hd, mu, q⟩
  · exact ⟨x, H1, I1, r, q⟩
  · obtain ⟨od, I2⟩ := I1.lock hd mu
    exact ⟨_, _, I2, r, q od⟩
theorem lockI_inv {P : Iv → M → Prop} {ok : Bool → Bool} {w : W} {f : Ad → Iv} (p : PostE P (lockI ok m w f)) : ∃ n t kvs, w = .ref n ∧ ok t = true ∧ ((m.get n = some (.dict t kvs) ∧ P (f n) (m.put n (.frd t kvs))) ∨ (m.get n = some (.frd t kvs) ∧ P (f n) m)) := by
  unfold lockI at p
  split at p
  · split at p
    · rename_i e
      obtain ⟨h, p⟩ := PostE.ifF p
      exact ⟨_, _, _, rfl, h, .inl ⟨e, p⟩⟩
    · rename_i e
      obtain ⟨h, p⟩ := PostE.ifF p
      exact ⟨_, _, _, rfl, h, .inr ⟨e, p⟩⟩
    · exact p.elim
  · exact p.elim
/-- what is told of the locked dict: A -/
theorem lock_go {ok : Bool → Bool} {f : Ad → Iv} {R : L2.It → Hp → Prop} {A : V → Hp → Prop} {w : W} {v : V} (S : SimH K C ι m H) (r : RepV C (TT' K H) ι w v)
    (hA : ∀ (n : Ad) (d : Addr) (t : Bool) (kvs : List (W × W)) (H2 : Hp), ok t = true → ι n = some d → Frz1 C K ι H2 d t kvs → (∀ J, IvOk K C ι H2 (f n) J → R J H2) → A (.ref d) H2)
    (p : PostE (fun v m1 => ∀ ι1 H1, SimH K C ι1 m1 H1 → Le ι ι1 → Tk K H H1 → ∀ J, IvOk K C ι1 H1 v J → R J H1) (lockI ok m w f)) :
    A v H ∨ ∃ d u, v = .ref d ∧ H d = some u ∧ Mut (some u) ∧ ∀ od, A v (upd H d (.frz od u)) := by
  obtain ⟨n, t, kvs, rfl, hok, q⟩ := lockI_inv p
  cases r with
  | ref hn =>
    rename_i d
    rcases q with ⟨hm, q⟩ | ⟨hm, q⟩
    · obtain ⟨a', e1, h3⟩ := S.ob n _ hm
      rw [hn] at e1; cases e1
      have h0 := S.ne_root hm (by intro z; cases z)
      cases t with
      | false =>
        obtain ⟨ks, h1, h2⟩ := h3
        refine .inr ⟨d, _, rfl, h1, trivial, fun od => ?_⟩
        have t0 : Tk K H (upd H d (.frz od (.dK ks))) := tk_dK h1
        have S2 := S.put (o := .frd false kvs) hn h0 (.inr (.inl ⟨_, h1⟩)) t0 ⟨od, ks, upd_same, h2.mono t0 (Le.refl _)⟩
        exact hA n d false kvs _ hok hn (.k upd_same (h2.mono t0 (Le.refl _))) fun J hJ => q ι _ S2 (Le.refl _) t0 J hJ
      | true =>
        obtain ⟨ks, h1, h2⟩ := h3
        refine .inr ⟨d, _, rfl, h1, trivial, fun od => ?_⟩
        have t0 : Tk K H (upd H d (.frz od (.dT ks))) := tk_dT h1
        have S2 := S.put (o := .frd true kvs) hn h0 (.inr (.inr (.inl ⟨_, h1⟩))) t0 ⟨od, ks, upd_same, h2.mono t0 (Le.refl _)⟩
        exact hA n d true kvs _ hok hn (.t upd_same (h2.mono t0 (Le.refl _))) fun J hJ => q ι _ S2 (Le.refl _) t0 J hJ
    · exact .inl (hA n d t kvs H hok hn (frd_at S hn hm) fun J hJ => q ι H S (Le.refl _) (Tk.refl _ _) J hJ)
theorem iv_itmT {n : Ad} {d : Addr} {od : Obj} {ks : List (List L2.Key × V)} (hn : ι n = some d) (hd : H d = some (.frz od (.dT ks))) : IvOk K C ι H (.itm n) (ItiT d od ks) := by
  refine ⟨fun ι' H' m i l t S e => ?_, fun ι' H' m i w l t S e => ?_⟩
  · obtain ⟨_, kvs, e1, e2⟩ := atD_inv (show atD n (fun kvs => Option.rec none (fun p => some (.tup [p.1, p.2])) (nth kvs i)) m = .ok none from e)
    obtain ⟨h1, h2⟩ := same_t hn hd l t S e1
    exact ⟨h1, by rw [← h2.length]; exact nth_none e2⟩
  · obtain ⟨_, kvs, e1, e2⟩ := atD_inv (show atD n (fun kvs => Option.rec none (fun p => some (.tup [p.1, p.2])) (nth kvs i)) m = .ok (some w) from e)
    obtain ⟨h1, h2⟩ := same_t hn hd l t S e1
    obtain ⟨q, h, rfl⟩ := nth_some e2
    obtain ⟨k, v, g1, g2, g4⟩ := repK_at h2 h
    refine ⟨⟨h1, by rw [← h2.length]; exact (List.getElem?_eq_some_iff.mp h).1⟩, fun x H2 y => ?_⟩
    obtain ⟨b, kq, k', v', g3, rfl, hb, hkq, rfl⟩ := y
    rw [g1] at g3; cases g3
    have kt : RepV C (TT' K (upd H' b (.tup [.ref kq, v]))) ι' q.1 (.ref kq) := by
      generalize q.1 = q1 at g2 ⊢
      cases g2 with
      | mk g2 => exact .tup ((tk_new hb).tup _ _ hkq) (kRs_rep g2)
    exact ⟨simH_tup S hb, tk_new hb, .tup upd_same (.cons kt (.cons (g4.mono (tk_new hb) (Le.refl _)) .nil))⟩
theorem sndi_items {elts : List Expr} {kk : Nat} {tpos : Pos} (hb : noBase a = true) (hline : (apos.endLine == cpos.line) = true) (ha : Snd X C a ga) : SndI X C (.Tuple elts kk tpos) (.Call (.Attribute a "items" apos) [] [] cpos) (fun σ m => REbind (ga σ m) fun w m1 => lockI okAny m1 w .itm) :=
  ⟨fun _ _ => rfl, (pi_itemsA (pe_dlock ha.pe) (noBase_ok hb) hline).mono fun σ H R ⟨ι, σ', m, s, S, p⟩ =>
    tG_bind s S p fun ι1 H1 w v m1 l1 t1 s1 S1 r1 p1 => lock_go (f := .itm) (R := R) (A := fun x G1 => ∃ d o, x = .ref d ∧ ((∃ kvs, G1 d = some (.frz o (.dK kvs)) ∧ R (Iti d o kvs) G1) ∨ ∃ kvs, G1 d = some (.frz o (.dT kvs)) ∧ R (ItiT d o kvs) G1)) S1 r1
      (fun n d t kvs H2 _ hn z hR => by
        cases z with
        | k h1 h2 => exact ⟨d, _, rfl, .inl ⟨_, h1, hR _ (iv_itm hn h1)⟩⟩
        | t h1 h2 => exact ⟨d, _, rfl, .inr ⟨_, h1, hR _ (iv_itmT hn h1)⟩⟩)
      (PostE.mono (fun v m2 q ι2 H2 S2 l2 t2 J hJ => q ι2 H2 S2 (l1.trans l2) (t1.trans t2) J hJ) p1)⟩
theorem sndi_vals {tg : Expr} (hb : noBase a = true) (hline : (apos.endLine == cpos.line) = true) (ha : Snd X C a ga) : SndI X C tg (.Call (.Attribute a "values" apos) [] [] cpos) (fun σ m => REbind (ga σ m) fun w m1 => lockI not m1 w .val) :=
  ⟨fun _ _ => rfl, (pi_values (pe_dlock ha.pe) (noBase_ok hb) hline).mono fun σ H R ⟨ι, σ', m, s, S, p⟩ =>
    tG_bind s S p fun ι1 H1 w v m1 l1 t1 s1 S1 r1 p1 => lock_go (f := .val) (R := R) (A := fun x G1 => ∃ d o kvs, x = .ref d ∧ G1 d = some (.frz o (.dK kvs)) ∧ R (Itd d o kvs) G1) S1 r1
      (fun n d t kvs H2 ht hn z hR => by
        cases z with
        | k h1 h2 => exact ⟨d, _, _, rfl, h1, hR _ (iv_val hn h1)⟩
        | t h1 h2 => cases ht)
      (PostE.mono (fun v m2 q ι2 H2 S2 l2 t2 J hJ => q ι2 H2 S2 (l1.trans l2) (t1.trans t2) J hJ) p1)⟩
/-! ### the loop -/
theorem unlO_inv {D : Ends} {n : Ad} {k : M → RS} {o : Option O} (p : PostS E K C ι H D (unlO n m o k)) : ∃ t kvs, o = some (.frd t kvs) ∧ PostS E K C ι H D (k (m.put n (.dict t kvs))) := by
  unfold unlO at p
  split at p
  · exact ⟨_, _, rfl, p⟩
  · exact p.elim
/-- a dict as it may be locked -/
inductive Dc1 (H : Hp) (d : Addr) : HO → Prop
  | k {ks : List (L2.Key × V)} : H d = some (.dK ks) → Dc1 H d (.dK ks)
  | t {ks : List (List L2.Key × V)} : H d = some (.dT ks) → Dc1 H d (.dT ks)
theorem Dc1.at {d : Addr} {u : HO} (h : Dc1 H d u) : H d = some u := by cases h <;> assumption
theorem Dc1.wr {d : Addr} {u : HO} (h : Dc1 H d u) : Wr (H d) := by
  cases h with
  | k h => exact .inr (.inl ⟨_, h⟩)
  | t h => exact .inr (.inr (.inl ⟨_, h⟩))
theorem Dc1.tk {d : Addr} {u o : HO} (h : Dc1 H d u) : Tk K H (upd H d o) := by
  cases h with
  | k h => exact tk_dK h
  | t h => exact tk_dT h
/-- behind the locked loop -/
theorem unlock_ok {D : Ends} {n : Ad} {d : Addr} {u : HO} {od : Obj} (hn : ι n = some d) (h0 : n ≠ []) (hd : Dc1 H d u) : ∀ {r : RS}, PostS E K C ι H D (unlockS n r) →
    PostS E K C ι (upd H d (.frz od u)) ⟨fun σ' H' => Free d H' (D.nx σ'), fun v H' => Free d H' (D.rt v), fun σ' H' => Free d H' (D.bk σ'), fun σ' H' => Free d H' (D.ct σ')⟩ r := fun {r} => by
  have t0 : Tk K H (upd H d (.frz od u)) := hd.tk
  have key : ∀ {ι1 : Im} {H1 : Hp} {m1 : M} {t : Bool} {kvs : List (W × W)}, m1.get n = some (.frd t kvs) → SimH K C ι1 m1 H1 → Le ι ι1 → Tk K (upd H d (.frz od u)) H1 → ∃ od' u', H1 d = some (.frz od' u') ∧ SimH K C ι1 (m1.put n (.dict t kvs)) (upd H1 d u') ∧ Tk K H (upd H1 d u') ∧ TLe (TT' K H1) (TT' K (upd H1 d u')) := fun {ι1 H1 m1 t kvs} e S l t1 => by
    have fin : ∀ {od' : Obj} {u' : HO}, H1 d = some (.frz od' u') → ((∃ ks, u' = .dK ks) ∨ ∃ ks, u' = .dT ks) → (TLe (TT' K H1) (TT' K (upd H1 d u')) → RepO C (TT' K (upd H1 d u')) ι1 (upd H1 d u') d (.dict t kvs)) → ∃ od' u', H1 d = some (.frz od' u') ∧ SimH K C ι1 (m1.put n (.dict t kvs)) (upd H1 d u') ∧ Tk K H (upd H1 d u') ∧ TLe (TT' K H1) (TT' K (upd H1 d u')) := fun {od' u'} h1 hu r => by
      have ne : ∀ p vs, H1 p = some (.tup vs) → upd H1 d u' p = some (.tup vs) := fun p vs q => by
        have hp : p ≠ d := fun z => by rw [z, h1] at q; cases q
        rw [upd_ne hp]; exact q
      refine ⟨od', u', h1, S.unlock (l n d hn) h0 h1 hu r, ⟨fun p vs q => ne p vs (t1.tup p vs (t0.tup p vs q)), fun p o u q => ?_⟩, ne⟩
      have hp : p ≠ d := fun z => by
        rw [z] at q
        cases hd with
        | k h => rw [h] at q; cases q
        | t h => rw [h] at q; cases q
      rw [upd_ne hp]
      exact t1.frz p o u (t0.frz p o u q)
    cases frd_at S (l n d hn) e with
    | k h1 h2 => exact fin h1 (.inl ⟨_, rfl⟩) fun tt => ⟨_, upd_same, h2.monoT tt (Le.refl _)⟩
    | t h1 h2 => exact fin h1 (.inr ⟨_, rfl⟩) fun tt => ⟨_, upd_same, h2.monoT tt (Le.refl _)⟩
  have sim : ∀ {ι1 : Im} {H1 H2 : Hp} {σ' : Sl} {σ : L2.St}, TLe (TT' K H1) (TT' K H2) → SimS K C ι1 H1 σ' σ → SimS K C ι1 H2 σ' σ := fun t s i w e => by
    obtain ⟨v, h1, h2⟩ := s i w e
    exact ⟨v, h1, h2.monoT t (Le.refl _)⟩
  induction r with
  | nx σ m =>
    intro p ι1 H1 σ1 S l t s
    obtain ⟨_, kvs, e, p⟩ := unlO_inv p
    obtain ⟨od', ks', h1, S', t', tt⟩ := key e S l t
    exact ⟨od', _, h1, p ι1 _ σ1 S' l t' (sim tt s)⟩
  | bk σ m =>
    intro p ι1 H1 σ1 S l t s
    obtain ⟨_, kvs, e, p⟩ := unlO_inv p
    obtain ⟨od', ks', h1, S', t', tt⟩ := key e S l t
    exact ⟨od', _, h1, p ι1 _ σ1 S' l t' (sim tt s)⟩
  | ct σ m =>
    intro p ι1 H1 σ1 S l t s
    obtain ⟨_, kvs, e, p⟩ := unlO_inv p
    obtain ⟨od', ks', h1, S', t', tt⟩ := key e S l t
    exact ⟨od', _, h1, p ι1 _ σ1 S' l t' (sim tt s)⟩
  | rt w m =>
    intro p ι1 H1 v S l t q
    obtain ⟨_, kvs, e, p⟩ := unlO_inv p
    obtain ⟨od', ks', h1, S', t', tt⟩ := key e S l t
    exact ⟨od', _, h1, p ι1 _ v S' l t' (q.monoT tt (Le.refl _))⟩
  | exc x σ m => exact fun p => QX.base (Le.refl _) t0 p
  | er e => exact id
  | draw n k ih => exact fun p d hd => ih _ (p d hd)
theorem lockO_inv {n n' : Ad} {o : Option O} {t : Bool} {kvs : List (W × W)} (h : lockO n o = some (n', t, kvs)) : n' = n ∧ o = some (.dict t kvs) := by
  unfold lockO at h
  split at h
  · cases h; exact ⟨rfl, rfl⟩
  · cases h
theorem lockOf_inv {it : Jw.It} {σ' : Sl} {n : Ad} {t : Bool} {kvs : List (W × W)} (h : lockOf it σ' m = some (n, t, kvs)) : ∃ j, it = .seq (.vr j) ∧ nth σ' j = some (some (.ref n)) ∧ m.get n = some (.dict t kvs) := by
  cases it with
  | seq e =>
    cases e with
    | vr j =>
      have h : lockI1 j σ' m = some (n, t, kvs) := h
      unfold lockI1 at h
      cases h1 : nth σ' j with
      | none => rw [h1] at h; cases h
      | some o =>
        cases o with
        | none => rw [h1] at h; cases h
        | some w =>
          rw [h1] at h
          cases w with
          | ref n' =>
            obtain ⟨rfl, e2⟩ := lockO_inv (show lockO n' (m.get n') = some (n, t, kvs) from h)
            exact ⟨j, rfl, h1, e2⟩
          | _ => cases h
    | _ => cases h
  | _ => cases h
/-- a loop that locks the dict that it walks -/
theorem snds_lock {st : Stmt} {it : Jw.It} {g : Sl → M → RS} (h : SndS E X C st g) : SndS E X C st (fun σ m => Option.rec (g σ m) (fun p => unlockS p.1 (g σ (m.put p.1 (.frd p.2.1 p.2.2)))) (lockOf it σ m)) :=
  ⟨(h.ps.or (ps_lock2 h.ps)).mono fun D σ H ⟨ι, σ', m, s, S, p⟩ => by
    have p : PostS E X.K C ι H D (Option.rec (g σ' m) (fun p => unlockS p.1 (g σ' (m.put p.1 (.frd p.2.1 p.2.2)))) (lockOf it σ' m)) := p
    cases hl : lockOf it σ' m with
    | none =>
      rw [hl] at p
      exact .inl ⟨ι, σ', m, s, S, p⟩
    | some q =>
      obtain ⟨n, t, kvs⟩ := q
      rw [hl] at p
      have p : PostS E X.K C ι H D (unlockS n (g σ' (m.put n (.frd t kvs)))) := p
      obtain ⟨j, _, hs, hm⟩ := lockOf_inv hl
      obtain ⟨d, hn, h3⟩ := S.ob n _ hm
      have h0 : n ≠ [] := S.ne_root hm (by intro z; cases z)
      cases t with
      | false =>
        obtain ⟨ks, h1, h2⟩ := h3
        refine .inr ⟨d, .dK ks, h1, trivial, fun od => ?_⟩
        have t0 : Tk X.K H (upd H d (.frz od (.dK ks))) := tk_dK h1
        exact ⟨ι, σ', m.put n (.frd false kvs), s.mono t0 (Le.refl _), S.put hn h0 (.inr (.inl ⟨_, h1⟩)) t0 ⟨od, ks, upd_same, h2.mono t0 (Le.refl _)⟩, unlock_ok hn h0 (.k h1) p⟩
      | true =>
        obtain ⟨ks, h1, h2⟩ := h3
        refine .inr ⟨d, .dT ks, h1, trivial, fun od => ?_⟩
        have t0 : Tk X.K H (upd H d (.frz od (.dT ks))) := tk_dT h1
        exact ⟨ι, σ', m.put n (.frd true kvs), s.mono t0 (Le.refl _), S.put hn h0 (.inr (.inr (.inl ⟨_, h1⟩))) t0 ⟨od, ks, upd_same, h2.mono t0 (Le.refl _)⟩, unlock_ok hn h0 (.t h1) p⟩⟩
/-! ### o.f as a target -/
theorem sndg_fld (kl : Kl C X.K X.mg) {f : Nat} {x : Str} (hx : C.fl[f]? = some x) (ha : Snd X C a ga) : SndG X C (.Attribute a x pos) [] (fun w σ m => REbind (ga σ m) fun z m1 => REbind (setF z f w m1) fun _ m2 => .ok σ m2) :=
  ⟨fun _ _ => rfl, ⟨fun pins s σ H v u Q I r ⟨ι, σ', m, w, sσ, S, rv, p⟩ => PySem.W.kas_attr (thn (ha.pe.run pins s σ H (fun y H2 => ∃ b Cc dx fs, y = .ref b ∧ H2 b = some (.ins Cc dx fs) ∧ L2.Cls X.K Cc ∧ NoAttr X.K Cc x ∧ fs.length < 1000 ∧ Q σ (upd H2 b (.ins Cc dx (L2.putF x v fs)))) I
    (tG_bind sσ S p fun ι1 H1 w1 v1 m1 l1 t1 s1 S1 r1 p1 => by
      have p1 := PostE.bind p1
      obtain ⟨n, c, fs, rfl, hm, p1⟩ := getI_inv p1
      obtain ⟨hl, p1⟩ := PostE.ifF p1
      cases r1 with
      | ref hn =>
        obtain ⟨dx, vs, h1, k1, k2, k3, S3, t3⟩ := ins_put kl S1 hx hn hm (Nat.blt_eq.mp hl) (rv.mono t1 l1)
        exact ⟨_, _, dx, vs, rfl, h1, k1, k2, k3, p1 ι1 _ σ S3 l1 (t1.trans t3) (s1.mono t3 (Le.refl _)) rfl⟩)) fun ov s1 ⟨y, H1, I1, ry, b, Cc, dx, fs, ex, ea, c, n, l, q⟩ => by
    subst ex
    obtain rfl : ov = Value.ref b := ry
    exact setattr_ok I1 ea c n l r fun s3 I3 => ⟨σ, _, I3, q⟩)⟩⟩
/-! ### {k: v, ..} -/
def tGps (K : PySem.W.Frag) (C : Cn) (g : Sl → M → RE (List (W × W))) : L2.St → Hp → (List (V × V) → Hp → Prop) → Prop := fun σ H Q => ∃ ι σ' m, SimS K C ι H σ' σ ∧ SimH K C ι m H ∧
  PostE (fun ps m1 => ∀ ι1 H1 vs, SimH K C ι1 m1 H1 → Le ι ι1 → Tk K H H1 → RepPs C (TT' K H1) ι1 ps vs → Q vs H1) (g σ' m)
structure SndPs (X : Cx) (C : Cn) (pos : Pos) (ks : List (Option Expr)) (vs : List Expr) (g : Sl → M → RE (List (W × W))) : Prop where
  pp : ∃ trs, PPs X pos ks vs trs ∧ ∀ σ H Q, tGps X.K C g σ H Q → tPairs trs σ H Q
  all : ks.all (·.isSome) = true
  len : ks.length = vs.length
theorem sndps_nil : SndPs X C pos [] [] (fun _ m => .ok [] m) := ⟨⟨[], pps_nil, fun σ H Q ⟨ι, σ', m, s, S, p⟩ => p ι H [] S (Le.refl _) (Tk.refl _ _) .nil⟩, rfl, rfl⟩
theorem sndps_cons {k v : Expr} {ks : List (Option Expr)} {vs : List Expr} {gs : Sl → M → RE (List (W × W))} (hk : Snd X C k ga) (hv : Snd X C v gb) (hr : SndPs X C pos ks vs gs) :
    SndPs X C pos (some k :: ks) (v :: vs) (fun σ m => REbind (ga σ m) fun k m1 => REbind (gb σ m1) fun w m2 => REbind (gs σ m2) fun ws m3 => .ok ((k, w) :: ws) m3) := by
  obtain ⟨⟨trs, h1, h2⟩, h3, h4⟩ := hr
  refine ⟨⟨_, pps_cons hk.pe hv.pe h1, fun σ H Q ⟨ι, σ', m, s, S, p⟩ => ?_⟩, by rw [List.all_cons, h3]; rfl, by rw [List.length_cons, List.length_cons, h4]⟩
  refine tG_bind s S p fun ι1 H1 w1 v1 m1 l1 t1 s1 S1 r1 p1 => ?_
  refine tG_bind s1 S1 p1 fun ι2 H2 w2 v2 m2 l2 t2 s2 S2 r2 p2 => ?_
  refine h2 σ H2 _ ⟨ι2, σ', m2, s2, S2, PostE.mono (fun ws m3 p3 ι3 H3 vs S3 l3 t3 r3 => ?_) (PostE.bind p2)⟩
  exact p3 ι3 H3 _ S3 ((l1.trans l2).trans l3) ((t1.trans t2).trans t3) (.cons ((r1.mono t2 l2).mono t3 l3) (r2.mono t3 l3) r3)
theorem putAll_ok {T : Addr → List V → Prop} {lo hi : Int} (b1 : lo ≤ C.x) (b2 : C.x ≤ hi) : ∀ {l acc q : List (W × W)} {vs : List (V × V)} {r : List (L2.Key × V)}, putAll lo hi l acc = .ok q → allL (fun p => keyOk0 p.1) l = true → RepPs C T ι l vs → RepK C T ι (KR C) acc r →
    ∃ kvs : List (L2.Key × V), vs = kvs.map (fun kv => (kV kv.1, kv.2)) ∧ RepK C T ι (KR C) q (mergeK r kvs)
  | [], _, _, _, _, h, _, .nil, ha => by
    have h : (.ok _ : Except Er (List (W × W))) = .ok _ := h
    cases h
    exact ⟨[], rfl, ha⟩
  | (k, w) :: l, acc, q, _, r, h, hk, .cons a b t, ha => by
    obtain ⟨acc2, e1, e2⟩ := exB_ok (show exB (putW lo hi k w acc) (putAll lo hi l) = .ok q from h)
    obtain ⟨k1, k2⟩ := allL_cons hk
    obtain ⟨k', hk', rfl⟩ := key0_inv k1 a
    obtain ⟨kvs, rfl, g⟩ := putAll_ok b1 b2 e2 k2 t (put_ok (keq_kR b1 b2) hk' b e1 ha)
    exact ⟨(k', _) :: kvs, rfl, g⟩
theorem snd_dsp (R : Rng Γ C) {keys : List (Option Expr)} {values : List Expr} {gs : Sl → M → RE (List (W × W))} (h : SndPs X C pos keys values gs) (h0 : keys ≠ []) (h15 : keys.length ≤ 15) :
    Snd X C (.Dict keys values pos) (fun σ m => REbind (gs σ (m.new (.dict false []))) fun ps m1 => ifB (allL (fun p => keyOk0 p.1) ps && (Nat.ble ps.length 15 && isD0 (m1.get m.next))) (lift (putAll Γ.lo Γ.hi ps []) fun q => .ok (.ref m.next) (m1.put m.next (.dict false q))) (.er (.stuck 51))) := by
  obtain ⟨⟨trs, h1, h2⟩, h3, h4⟩ := h
  refine Snd.val ⟨fun _ _ => rfl, fun _ _ => rfl, fun _ _ => rfl, fun op => by cases op <;> rfl, fun _ _ _ => rfl, fun _ _ _ _ => rfl⟩ ((pe_disp h1 h3 h4 h0 h15).mono fun σ H Q ⟨ι, σ', m, s, S, p⟩ => ?_) fun _ => rfl
  intro a ha
  have le0 : Le ι (ext ι m.next a) := ext_le S.none_next
  have S2 : SimH X.K C (ext ι m.next a) (m.new (.dict false [])) (upd H a (.dK [])) := S.new (o := .dict false []) (u := .dK []) ha ⟨[], upd_same, .nil⟩
  have t0 : Tk X.K H (upd H a (.dK [])) := tk_new ha
  refine h2 σ _ _ ⟨_, σ', _, s.mono t0 le0, S2, PostE.mono (fun ps m1 p1 ι1 H1 vs S1 l1 t1 r1 => ?_) (PostE.bind p)⟩
  obtain ⟨hk, p1⟩ := PostE.ifF p1
  simp only [Bool.and_eq_true] at hk
  obtain ⟨hk1, hk2, hk3⟩ := hk
  obtain ⟨q, e, p1⟩ := PostE.lift p1
  have hm : m1.get m.next = some (.dict false []) := by
    unfold isD0 at hk3
    split at hk3
    · assumption
    · cases hk3
  have hn : ι1 m.next = some a := l1 _ _ ext_same
  obtain ⟨a', e1, ks, f1, f2⟩ := S1.ob _ _ hm
  rw [hn] at e1; cases e1
  cases f2
  obtain ⟨kvs, rfl, g⟩ := putAll_ok R.lo R.hi e hk1 r1 .nil
  refine ⟨f1, kvs, rfl, ?_, ?_⟩
  · have := r1.length
    rw [List.length_map] at this
    rw [← this]; exact Nat.le_of_ble_eq_true hk2
  · have tk := tk_dK (K := X.K) (o := .dK (mergeK [] kvs)) f1
    have S3 := S1.put (o := .dict false q) hn (S1.ne_root hm (by intro z; cases z)) (.inr (.inl ⟨_, f1⟩)) tk ⟨_, upd_same, g.mono tk (Le.refl _)⟩
    exact p1 ι1 _ _ S3 (le0.trans l1) (t0.trans (t1.trans tk)) (.ref hn)
end
end
end Jw

/-! The check of the program's syntax against the IR, and its soundness. -/
namespace Jw
open PySem PySem.Spec PyProof.Rows L2
noncomputable section
/-- names of fields, methods, own classes -/
structure CI where
  fl : List Str
  mn : List Str
  cn : List Str
/-- what a body knows of names -/
structure Sc where
  N : List Str
  sc : Scope
  fn : Str → Bool
  /-- lambdas may be made here -/
  lam : Bool
  /-- the names of the exception classes -/
  en : List (Str × Bool)
  /-- the def that tells an exception's word -/
  wd : Option Str
  ci : CI
def gli (Y : Sc) (x : Str) : Bool := decide (Y.sc.names.lookup x = some .globalImplicit)
def vis (Y : Sc) (x : Str) : Bool := decide (Y.sc.names.lookup x = some .local) || decide (Y.sc.names.lookup x = some .cell) || decide (Y.sc.names.lookup x = some .free)
def okn (x : Str) : Bool := !(x == ("__debug__" : Str)) && !(x == ("__classdict__" : Str))
def niceE : Expr → Bool
  | .Starred .. => false
  | .Slice .. => false
  | .Set .. => false
  | _ => true
theorem nice_of {e : Expr} (h : niceE e = true) : Nice e := by
  cases e <;> first
    | (cases h; done)
    | exact ⟨fun _ _ => rfl, fun _ _ => rfl, fun _ _ => rfl, fun op => by cases op <;> rfl, fun _ _ _ => rfl, fun _ _ _ _ => rfl⟩
def lamDB (sc scope : Scope) (pa : List Str) : Bool :=
  decide (scope.kind = .function) && !scope.isCoroutine && !scope.isGenerator && (scope.names.all fun y => !decide (y.2 = .cell) && (!decide (y.2 = .local) || decide (y.1 ∈ pa)) && (!decide (y.2 = .free) || decide (sc.names.lookup y.1 = some .cell) || decide (sc.names.lookup y.1 = some .free))) && pa.all fun a => decide (scope.names.lookup a = some .local)
/-- a store of a name -/
def stB (Y : Sc) (x : Str) : Bool := decide (Y.sc.names.lookup x = some .local) || (decide (Y.sc.names.lookup x = some .cell) && Y.fn x)
section
variable (nm : List (Str × Nat)) (gn : List Str)
section
variable (r : Sc → Expr → Ex → Bool)
def kL (Y : Sc) : List Expr → List Ex → Bool
  | [], [] => true
  | e :: es, x :: xs => r Y e x && kL Y es xs
  | _, _ => false
def kCall1 (Y : Sc) (name : Str) (a : Ex) : Expr → Bool
  | .Call (.Name s _) [x] [] _ => decide (s = name) && gli Y name && r Y x a
  | _ => false
def kCall2 (Y : Sc) (name : Str) (a b : Ex) : Expr → Bool
  | .Call (.Name s _) [x, y] [] _ => decide (s = name) && gli Y name && r Y x a && r Y y b
  | _ => false
def kIsa (Y : Sc) (name : Str) (a : Ex) : Expr → Bool
  | .Call (.Name s _) [x, .Name t _] [] _ => decide (s = "isinstance") && decide (t = name) && gli Y "isinstance" && gli Y name && r Y x a
  | _ => false
def kM0 (Y : Sc) (name : Str) (a : Ex) : Expr → Bool
  | .Call (.Attribute o s apos) [] [] cpos => decide (s = name) && noBase o && (apos.endLine == cpos.line) && r Y o a
  | _ => false
def kOn (Y : Sc) (fn name : Str) (a : Ex) : Expr → Bool
  | .Call (.Name t _) [.Call (.Attribute o s apos) [] [] cpos] [] _ => decide (t = fn) && gli Y fn && decide (s = name) && noBase o && (apos.endLine == cpos.line) && r Y o a
  | _ => false
def isZero : Ex → Bool
  | .cw (.int 0) => true
  | _ => false
def kRng (Y : Sc) (fn : Str) (a b : Ex) : Expr → Bool
  | .Call (.Name t _) [.Call (.Name s _) [x] [] _] [] _ => decide (t = fn) && gli Y fn && decide (s = "range") && gli Y "range" && isZero a && r Y x b
  | .Call (.Name t _) [.Call (.Name s _) [x, y] [] _] [] _ => decide (t = fn) && gli Y fn && decide (s = "range") && gli Y "range" && r Y x a && r Y y b
  | _ => false
/-- f(set(x)) -/
def kSet (Y : Sc) (fn : Str) (a : Ex) : Expr → Bool
  | .Call (.Name t _) [.Call (.Name s _) [x] [] _] [] _ => decide (t = fn) && gli Y fn && decide (s = "set") && gli Y "set" && r Y x a
  | _ => false
def lamY (Y : Sc) (scope : Scope) : Sc := ⟨Y.N, scope, fun _ => false, false, [], none, Y.ci⟩
def kLam (Y : Sc) (p : Nat) (b : Ex) : Expr → Bool
  | .Lambda ⟨[], [⟨a, _, _⟩], none, [], [], none, []⟩ body scope _ => Y.lam && decide (Y.N[p]? = some a) && lam1B Y.sc scope a && r (lamY Y scope) body b
  | _ => false
/-- the lambda's own names -/
def kParD (Y : Sc) (own : List Nat) (scope : Scope) : Arguments → Bool
  | ⟨[], [], none, [], [], none, []⟩ => own.isEmpty && lamDB Y.sc scope []
  | ⟨[], [⟨a, _, _⟩], none, [], [], none, [.Constant (.int _) _ _]⟩ => (match own with
    | [i] => decide (Y.N[i]? = some a)
    | _ => false) && lamDB Y.sc scope [a]
  | _ => false
def kWord (Y : Sc) (own : List Nat) (b : Ex) : Expr → Bool
  | .Call (.Name s _) [.Lambda params body scope _] [] _ => decide (Y.wd = some s) && Y.lam && gli Y s && okn s && isCallE b && kParD Y own scope params && r (lamY Y scope) body b
  | _ => false
def kKey (Y : Sc) (fn : Str) (a : Ex) (p : Nat) (b : Ex) : Expr → Bool
  | .Call (.Name t _) [x] [⟨some k, l, _⟩] _ => decide (t = fn) && gli Y fn && decide (k = "key") && r Y x a && kLam r Y p b l
  | _ => false
def kKeyR (Y : Sc) (lo hi : Ex) (p : Nat) (b : Ex) : Expr → Bool
  | .Call (.Name t _) [.Call (.Name s _) [x] [] _] [⟨some k, l, _⟩] _ => decide (t = "sorted") && gli Y "sorted" && decide (k = "key") && decide (s = "range") && gli Y "range" && isZero lo && r Y x hi && kLam r Y p b l
  | .Call (.Name t _) [.Call (.Name s _) [x, y] [] _] [⟨some k, l, _⟩] _ => decide (t = "sorted") && gli Y "sorted" && decide (k = "key") && decide (s = "range") && gli Y "range" && r Y x lo && r Y y hi && kLam r Y p b l
  | _ => false
def kM1 (Y : Sc) (name : Str) (a b : Ex) : Expr → Bool
  | .Call (.Attribute o s apos) [x] [] cpos => decide (s = name) && noBase o && (apos.endLine == cpos.line) && r Y o a && r Y x b
  | _ => false
def kM2 (Y : Sc) (name : Str) (a b c : Ex) : Expr → Bool
  | .Call (.Attribute o s apos) [x, y] [] cpos => decide (s = name) && noBase o && (apos.endLine == cpos.line) && r Y o a && r Y x b && r Y y c
  | _ => false
def b3N : B3 → Str
  | .get => "get"
  | .setdef => "setdefault"
def kOpt (Y : Sc) : Option Expr → Option Ex → Bool
  | none, none => true
  | some e, some x => r Y e x
  | _, _ => false
def slT : Nat → Tg → List Nat
  | 0, _ => []
  | f + 1, t => match t with
    | .nm i => [i]
    | .tp l => (l.map (slT f)).flatten
    | _ => []
def kTs (k : Expr → Tg → Bool) : List Expr → List Tg → Bool
  | [], [] => true
  | e :: es, t :: ts => k e t && kTs k es ts
  | _, _ => false
def kTg (Y : Sc) : Nat → Expr → Tg → Bool
  | 0, _, _ => false
  | f + 1, e, t => match t with
    | .nm i => (match e with
      | .Name s _ => decide (Y.N[i]? = some s) && stB Y s
      | _ => false)
    | .tp l => (match e with
      | .Tuple es _ _ => kTs (kTg Y f) es l
      | _ => false)
    | .ix a b => (match e with
      | .Subscript x y _ => r Y x a && r Y y b
      | _ => false)
    | .fld a g => (match e with
      | .Attribute x s _ => decide (Y.ci.fl[g]? = some s) && r Y x a
      | _ => false)
def kI (Y : Sc) (tg iter : Expr) : It → Bool
  | .seq e => r Y iter e
  | .rng a b => (match iter with
    | .Call (.Name s _) [x] [] _ => decide (s = "range") && gli Y "range" && (match a with | .cw (.int 0) => true | _ => false) && r Y x b
    | .Call (.Name s _) [x, y] [] _ => decide (s = "range") && gli Y "range" && r Y x a && r Y y b
    | _ => false)
  | .enum e => (match tg with
    | .Tuple _ _ _ => kCall1 r Y "enumerate" e iter
    | _ => false)
  | .zip a b => (match tg with
    | .Tuple _ _ _ => kCall2 r Y "zip" a b iter
    | _ => false)
  | .items e => (match tg with
    | .Tuple _ _ _ => kM0 r Y "items" e iter
    | _ => false)
  | .vals e => kM0 r Y "values" e iter
def kIfs (Y : Sc) : List Expr → List Ex → Bool
  | [], [] => true
  | [c], [x] => r Y c x
  | _, _ => false
def blkY (Y : Sc) (scope : Scope) : Sc := ⟨Y.N, { scope with names := scope.names.map fun (n, k) => if (k == .free && Y.sc.kind == .function && Y.sc.names.lookup n == some .cell) then (n, .cell) else (n, k) }, fun x => scope.names.lookup x == some .cell, false, [], none, Y.ci⟩
def ownP (Y : Sc) (own : List Nat) : List (Str × Nat) := own.map fun i => ((Y.N[i]?).getD ⟨#[]⟩, i)
def kComp (Y : Sc) (e : Ex) (tg : Tg) (it : It) (ifs : List Ex) (own : List Nat) : Expr → Bool
  | .ListComp elt [⟨t, i, fs, a⟩] scope _ => decide (a = 0) && kI r Y t i it && blkC Y.N Y.sc scope (ownP Y own) && kTg r (blkY Y scope) 6 t tg && (slT 6 tg).all (fun i => decide (i ∈ own)) && kIfs r (blkY Y scope) fs ifs && r (blkY Y scope) elt e
  | _ => false
def kComp2 (Y : Sc) (e : Ex) (tg : Tg) (it : It) (ifs : List Ex) (tg1 : Tg) (it1 : It) (ifs1 : List Ex) (own own1 : List Nat) : Expr → Bool
  | .ListComp elt [⟨t, i, fs, a⟩, ⟨t1, i1, fs1, a1⟩] scope _ => decide (a = 0) && decide (a1 = 0) && kI r Y t i it && blkC Y.N Y.sc scope (ownP Y own) && kTg r (blkY Y scope) 6 t tg && (slT 6 tg).all (fun i => decide (i ∈ own)) && kIfs r (blkY Y scope) fs ifs &&
    own1.all (fun i => decide (i ∈ own)) && kI r (blkY Y scope) t1 i1 it1 && kTg r (blkY Y scope) 6 t1 tg1 && (slT 6 tg1).all (fun i => decide (i ∈ own1)) && kIfs r (blkY Y scope) fs1 ifs1 && r (blkY Y scope) elt e
  | _ => false
def kPs (Y : Sc) : List (Option Expr) → List Expr → List (Ex × Ex) → Bool
  | [], [], [] => true
  | some k :: ks, v :: vs, p :: ps => r Y k p.1 && (r Y v p.2 && kPs Y ks vs ps)
  | _, _, _ => false
/-- a display with stars -/
def kP (Y : Sc) : List Expr → List (Bool × Ex) → Bool
  | [], [] => true
  | .Starred e _ :: es, x :: xs => x.1 && r Y e x.2 && kP Y es xs
  | e :: es, x :: xs => !x.1 && r Y e x.2 && kP Y es xs
  | _, _ => false
def kB1 (Y : Sc) (o : B1) (a : Ex) (e : Expr) : Bool := match o with
  | .len => kCall1 r Y "len" a e
  | .all => kCall1 r Y "all" a e
  | .any => kCall1 r Y "any" a e
  | .sum => kCall1 r Y "sum" a e
  | .sorted => kCall1 r Y "sorted" a e
  | .tuple => kCall1 r Y "tuple" a e
  | .list => kCall1 r Y "list" a e
  | .int => kCall1 r Y "int" a e
  | .abs => kCall1 r Y "abs" a e
  | .min => kCall1 r Y "min" a e
  | .max => kCall1 r Y "max" a e
  | .isInt => kIsa r Y "int" a e
  | .isBool => kIsa r Y "bool" a e
  | .isTuple => kIsa r Y "tuple" a e
  | .isStr => kIsa r Y "str" a e
  | .isList => kIsa r Y "list" a e
  | .pop => kM0 r Y "pop" a e
  | .sumVals => kOn r Y "sum" "values" a e
  | .sortItems => kOn r Y "sorted" "items" a e
  | .sortedSet => kSet r Y "sorted" a e
  | .sortedSetT => kSet r Y "sorted" a e
  | .lenSet => kSet r Y "len" a e
  | .values => kOn r Y "list" "values" a e
  | .dcopy => kCall1 r Y "dict" a e
  | .revL => (match e with
    | .Subscript x (.Slice none none (some (.UnaryOp .USub (.Constant (.int 1) _ _) _)) _) _ => r Y x a
    | _ => false)
  | _ => false
def kB2 (Y : Sc) (o : B2) (a b : Ex) (e : Expr) : Bool := match o with
  | .min => kCall2 r Y "min" a b e
  | .max => kCall2 r Y "max" a b e
  | .append => kM1 r Y "append" a b e
  | .extend => kM1 r Y "extend" a b e
  | .get => kM1 r Y "get" a b e
  | .remove => kM1 r Y "remove" a b e
  | .index => kM1 r Y "index" a b e
  | .count => kM1 r Y "count" a b e
  | .popAt => kM1 r Y "pop" a b e
def kE (Y : Sc) (e : Expr) (x : Ex) : Bool := niceE e && match x with
  | .vr i => (match e with
    | .Name s _ => decide (Y.N[i]? = some s) && vis Y s && okn s
    | _ => false)
  | .cw w => (match e, w with
    | .Constant .none _ _, .non => true
    | .Constant (.bool b) _ _, .bl c => b == c
    | .Constant (.int i) _ _, .int j => decide (i = j)
    | .Constant (.str s) _ _, .str t => decide (s = t)
    | _, _ => false)
  | .gl j => (match e with
    | .Name s _ => decide (gn[j]? = some s) && gli Y s && okn s
    | _ => false)
  | .bin o a b => (match e with
    | .BinOp x op y _ => decide (op = boP o) && r Y x a && r Y y b
    | _ => false)
  | .neg a => (match e with
    | .UnaryOp .USub x _ => r Y x a
    | _ => false)
  | .cmp o a b => (match e with
    | .Compare x [op] [y] _ => decide (op = coP o) && r Y x a && r Y y b
    | _ => false)
  | .ch2 o p a b c => (match e with
    | .Compare x [o1, o2] [y, z] _ => decide (o1 = coP o) && decide (o2 = coP p) && r Y x a && r Y y b && r Y z c
    | _ => false)
  | .ch3 o p q a b c d => (match e with
    | .Compare x [o1, o2, o3] [y, z, u] _ => decide (o1 = coP o) && decide (o2 = coP p) && decide (o3 = coP q) && r Y x a && r Y y b && r Y z c && r Y u d
    | _ => false)
  | .isN a => (match e with
    | .Compare x [.Is] [.Constant .none _ _] _ => r Y x a
    | _ => false)
  | .notN a => (match e with
    | .Compare x [.IsNot] [.Constant .none _ _] _ => r Y x a
    | _ => false)
  | .isB k a => (match e with
    | .Compare x [.Is] [.Constant (.bool c) _ _] _ => (c == k) && r Y x a
    | _ => false)
  | .notB k a => (match e with
    | .Compare x [.IsNot] [.Constant (.bool c) _ _] _ => (c == k) && r Y x a
    | _ => false)
  | .no a => (match e with
    | .UnaryOp .Not x _ => r Y x a
    | _ => false)
  | .an l => (match e with
    | .BoolOp .And es _ => !l.isEmpty && kL r Y es l
    | _ => false)
  | .orr l => (match e with
    | .BoolOp .Or es _ => !l.isEmpty && kL r Y es l
    | _ => false)
  | .ite c a b => (match e with
    | .IfExp t x y _ => r Y t c && r Y x a && r Y y b
    | _ => false)
  | .tup l => (match e with
    | .Tuple es _ _ => kL r Y es l
    | _ => false)
  | .lst l => (match e with
    | .List es _ => kL r Y es l
    | _ => false)
  | .ix a b => (match e with
    | .Subscript x y _ => r Y x a && r Y y b
    | _ => false)
  | .sl a lo hi => (match e with
    | .Subscript x (.Slice l u none _) _ => r Y x a && kOpt r Y l lo && kOpt r Y u hi
    | _ => false)
  | .call f l => (match e with
    | .Call (.Name s _) (x :: es) [] _ => decide (nm[f]? = some (s, (x :: es).length)) && gli Y s && okn s && kL r Y (x :: es) l
    | .Call (.Name s _) [] [] _ => decide (nm[f]? = some (s, 0)) && gli Y s && okn s && l.isEmpty
    | _ => false)
  | .b1 o a => kB1 r Y o a e
  | .b2 o a b => kB2 r Y o a b e
  | .b3 o a b c => kM2 r Y (b3N o) a b c e
  | .comp e' tg it ifs own => kComp r Y e' tg it ifs own e
  | .comp2 e' tg it ifs tg1 it1 ifs1 own own1 => kComp2 r Y e' tg it ifs tg1 it1 ifs1 own own1 e
  | .lstS l => (match e with
    | .List es _ => kP r Y es l
    | _ => false)
  | .tupS l => (match e with
    | .Tuple es _ _ => kP r Y es l
    | _ => false)
  | .minK a p b => kKey r Y "min" a p b e
  | .fld a f => (match e with
    | .Attribute x s _ => decide (Y.ci.fl[f]? = some s) && noBase x && r Y x a
    | _ => false)
  | .meth a k l => (match e with
    | .Call (.Attribute o s apos) (x :: es) [] pos => decide (Y.ci.mn[k]? = some s) && noBase o && (apos.endLine == pos.line) && decide ((x :: es).length < 20) && r Y o a && kL r Y (x :: es) l
    | .Call (.Attribute o s apos) [] [] pos => decide (Y.ci.mn[k]? = some s) && noBase o && (apos.endLine == pos.line) && r Y o a && l.isEmpty
    | _ => false)
  | .mkI c l => (match e with
    | .Call (.Name s _) (x :: es) [] _ => decide (Y.ci.cn[c]? = some s) && gli Y s && okn s && kL r Y (x :: es) l
    | _ => false)
  | .lstRng a b => kRng r Y "list" a b e
  | .tupRng a b => kRng r Y "tuple" a b e
  | .sortK a p b => kKey r Y "sorted" a p b e
  | .sortKR a c p b => kKeyR r Y a c p b e
  | .dsp l => (match e with
    | .Dict ks vs _ => !ks.isEmpty && (Nat.ble ks.length 15 && kPs r Y ks vs l)
    | _ => false)
  | .dnew _ => (match e with
    | .Dict [] [] _ => true
    | _ => false)
  | .gf j => (match e with
    | .Name s _ => decide (nm[j]?.map (·.1) = some s) && gli Y s && okn s
    | _ => false)
  | .callV i l => (match e with
    | .Call (.Name s _) (x :: es) [] _ => decide (Y.N[i]? = some s) && vis Y s && okn s && kL r Y (x :: es) l
    | _ => false)
  | .word own b => kWord r Y own b e
  | .bad => true
end
def chkE : Nat → Sc → Expr → Ex → Bool
  | 0, _, _, _ => false
  | f + 1, Y, e, x => kE nm gn (chkE f) Y e x
/-- no comprehension -/
def noComp : Expr → Bool
  | .ListComp .. => false
  | .SetComp .. => false
  | .DictComp .. => false
  | _ => true
def notName : Expr → Bool
  | .Name .. => false
  | _ => true
/-- the stores of the assignment are not swapped -/
def noSwap (tg a : Expr) : Bool := match tg with
  | .Tuple ts _ _ => (match a with
    | .Tuple _ _ _ => ts.any notName
    | _ => true)
  | .List _ _ => false
  | _ => true
/-- .. one name is a cell's -/
def noSwapC (Y : Sc) (tg a : Expr) : Bool := match tg with
  | .Tuple ts _ _ => (match a with
    | .Tuple _ _ _ => ts.any fun t => match t with
      | .Name s _ => decide (Y.sc.names.lookup s = some .cell)
      | _ => false
    | _ => false)
  | _ => false
def ctS (f : Nat) : Bool := true
section
variable (r : Sc → Expr → Ex → Bool) (rs : Sc → List Stmt → List Sx → Bool)
def kAsg (Y : Sc) (l : Nat) (tg a : Expr) (t : Tg) (x : Ex) : Bool := ((noComp a || notName tg) && (noSwap tg a || noSwapC Y tg a) && r Y a x && kTg r Y 6 tg t) || match tg, t, a, x with
  | .Name s p, .nm i, .ListComp elt [⟨t', i', fs, z⟩] scope pos, .comp e' tg' it ifs own =>
    kComp r Y e' tg' it ifs own (.ListComp elt [⟨t', i', fs, z⟩] scope pos) && decide (Y.N[i]? = some s) && stB Y s &&
      ((decide (Y.sc.kind = .function) && decide (Y.sc.names.lookup s = some .local) && (p.line == pos.line) && !(scope.names.any fun (n, k) => n == s && (k == .local || k == .cell))) ||
        (decide (Y.sc.kind = .function) && decide (Y.sc.names.lookup s = some .cell)))
  | .Name s p, .nm i, .ListComp elt [⟨t', i', fs, z⟩, ⟨t1, i1, fs1, z1⟩] scope pos, .comp2 e' tg' it ifs tg1 it1 ifs1 own own1 =>
    kComp2 r Y e' tg' it ifs tg1 it1 ifs1 own own1 (.ListComp elt [⟨t', i', fs, z⟩, ⟨t1, i1, fs1, z1⟩] scope pos) && decide (Y.N[i]? = some s) && stB Y s &&
      ((decide (Y.sc.kind = .function) && decide (Y.sc.names.lookup s = some .local) && (p.line == pos.line) && !(scope.names.any fun (n, k) => n == s && (k == .local || k == .cell))) ||
        (decide (Y.sc.kind = .function) && decide (Y.sc.names.lookup s = some .cell)))
  | .Attribute o s p, .fld oa f, av, x => decide (Y.ci.fl[f]? = some s) && r Y o oa && r Y av x
  | _, _, _, _ => false
def namesOf : List Expr → Option (List (Str × Pos))
  | [] => some []
  | .Name s p :: es => (match namesOf es with
    | some l => some ((s, p) :: l)
    | none => none)
  | _ :: _ => none
def kPar (Y : Sc) (is : List Nat) (xs : List Ex) (ts vs : List Expr) : Bool := match ts, vs, is, xs with
  | [.Name s p, .Name t q], [a, b], [i, j], [x, y] => decide (Y.N[i]? = some s) && decide (Y.N[j]? = some t) && decide (i ≠ j) && decide (Y.sc.kind = .function) && r Y a x && r Y b y &&
    ((decide (Y.sc.names.lookup s = some .local) && decide (Y.sc.names.lookup t = some .local) && (q.line == p.line) && decide (s ≠ t) && !([a, b].all (foldedForSure 8)) && !([a, b].all (constantsAlone 8))) ||
     (stB Y s && stB Y t && (decide (Y.sc.names.lookup s = some .cell) || decide (Y.sc.names.lookup t = some .cell) || [a, b].all (foldedForSure 8))))
  | [.Name s p, .Name t q, .Name u q2], [a, b, c], [i, j, l], [x, y, z] => decide (Y.N[i]? = some s) && decide (Y.N[j]? = some t) && decide (Y.N[l]? = some u) && decide (i ≠ j) && decide (i ≠ l) && decide (j ≠ l) && decide (Y.sc.kind = .function) && r Y a x && r Y b y && r Y c z &&
    decide (Y.sc.names.lookup s = some .local) && decide (Y.sc.names.lookup t = some .local) && decide (Y.sc.names.lookup u = some .local) && (q.line == p.line) && (q2.line == p.line) && decide (s ≠ t) && decide (s ≠ u) && decide (t ≠ u) && !([a, b, c].all (foldedForSure 8)) && !([a, b, c].all (constantsAlone 8))
  | _, _, _, _ => false
def kS (Y : Sc) (st : Stmt) (x : Sx) : Bool := match x with
  | .asg t e => (match st with
    | .Assign [tg] a pos => kAsg r Y pos.line tg a t e
    | _ => false)
  | .par is es => (match st with
    | .Assign [.Tuple ts _ _] (.Tuple vs _ _) _ => kPar r Y is es ts vs
    | _ => false)
  | .augv i o e => (match st with
    | .AugAssign (.Name s _) op v _ => decide (op = boP o) && decide (Y.N[i]? = some s) && stB Y s && r Y v e
    | _ => false)
  | .augx a i o e => (match st with
    | .AugAssign (.Subscript p q _) op v _ => decide (op = boP o) && r Y p a && r Y q i && r Y v e
    | _ => false)
  | .ex e => (match st with
    | .Expr a _ => noComp a && r Y a e
    | _ => false)
  | .iff c a b => (match st with
    | .If t p q _ => r Y t c && rs Y p a && rs Y q b
    | _ => false)
  | .whl c b => (match st with
    | .While t p [] _ => r Y t c && rs Y p b
    | _ => false)
  | .fr t i b => (match st with
    | .For tg iter p [] _ => kI r Y tg iter i && kTg r Y 6 tg t && rs Y p b
    | _ => false)
  | .ret e => (match st with
    | .Return (some a) _ => r Y a e
    | _ => false)
  | .pas => (match st with
    | .Pass _ => true
    | _ => false)
  | .brk => (match st with
    | .Break _ => true
    | _ => false)
  | .cnt => (match st with
    | .Continue _ => true
    | _ => false)
  | .rse c l => (match st with
    | .Raise (some (.Call (.Name s _) es [] _)) none _ => decide (Y.en[c]?  = some (s, !es.isEmpty)) && gli Y s && okn s && (match es, l with
      | [], [] => true
      | [e], [x] => r Y e x
      | _, _ => false)
    | _ => false)
  | .bad => true
  | _ => false
def isDoc : Stmt → Bool
  | .Expr (.Constant (.str _) _ _) _ => true
  | _ => false
def kSs (Y : Sc) : List Stmt → List Sx → Bool
  | [], [] => true
  | st :: sts, x :: xs => kS r rs Y st x && kSs Y sts xs
  | _, _ => false
end
def chkS : Nat → Sc → List Stmt → List Sx → Bool
  | 0, _, _, _ => false
  | f + 1, Y, st, x => kSs (chkE nm gn (f + 1)) (chkS f) Y st x
end
end
end Jw

set_option maxHeartbeats 2000000
/-! The def that tells an exception's word: try: f() / except X as e: .. -/
namespace PySem.W
open PySem PySem.Spec PySem.Calls PyProof.Rows
section
variable {prog : Program} {w : World} {A : Around} {E : Value → Shared → Prop} {s : Shared} {K : Frag} {x D : Addr} {ox : Obj} {od : Option Obj}
theorem findObj_dataD {C : Addr} {name : Str} {a g : Value} (hc : (clsIn K C).isSome = true) (ha : findIn K (.ref C) name = some (some a)) (hg : specialIn K a "__get__" = some (some g)) (ht : takesIn K a = some true) : findObj K C od name = some (.bind g a) := by
  obtain ⟨cd, hc⟩ := Option.isSome_iff_exists.mp hc
  unfold findObj
  rw [hc, Option.bind_some, ha, Option.bind_some]
  simp [hg, ht]
theorem kin_classED {Q : Option Value → Shared → Prop} (hga : findIn K (.ref D) "__getattribute__" = some (some (.builtin "BaseException.__getattribute__"))) (hgt : findIn K (.ref D) "__getattr__" = some none) (hsub : subIn K (.ref D) (.type "BaseException") = some true)
    (hdct : hasDictIn K D = true) (ha : findIn K (.ref D) "__class__" = some (some (.builtin "object.__class__")))
    (hn : specialIn K (.builtin "object.__class__") "__get__" = some (some (.builtin "getset_descriptor.__get__"))) (htk : takesIn K (.builtin "object.__class__") = some true) (hm : mroIn K D (.type "object") = some true)
    (X : K.In s.heap) (I : InstAt s.heap x ox D od) (h : Q (some (.ref D)) { s with toks := s.toks + 1 }) : wpAny (model prog w) A (getAttr? (.ref x) "__class__") Q E s := by
  have hf : findObj K D od "__class__" = some (.bind (.builtin "getset_descriptor.__get__") (.builtin "object.__class__")) := findObj_dataD (by obtain ⟨cd, hc, _⟩ := any_some hdct; rw [hc]; rfl) ha hn htk
  obtain ⟨hp, g, d, t, os⟩ := s
  have L0 := I.type (M := model prog w)
  have L1 := looks_findIn (M := model prog w) X hga
  have L2 := looks_findIn (M := model prog w) X hgt
  have L3 := looks_find (M := model prog w) X I hf
  have sub : Looks (model prog w) hp (isInstance (.ref x) (.type "BaseException")) true := L0.andThen (looks_subIn X hsub)
  have hx0 : (false && onTheHeap (Value.builtin "BaseException.__getattribute__")) = false := rfl
  have hx2 : (Value.builtin "BaseException.__getattribute__" == Value.builtin "object.__getattribute__") = false := by decide +kernel
  have hx1 : (onTheHeap (Value.ref D) && Value.builtin "BaseException.__getattribute__" == Value.builtin "object.__getattribute__") = false := by rw [hx2]; rfl
  unfold getAttr? getAttrBy? getAttrBy
  refine wpAny_bind (wpAny_mkText (wpAny_bind (wpAny_attempt (wpAny_holding (wpAny_bind (L0.at (wpAny_bind (L1.at ?_))))))))
  show wpAny _ _ (if (onTheHeap (Value.ref D) && Value.builtin "BaseException.__getattribute__" == Value.builtin "object.__getattribute__") = true then _ else _) _ _ _
  rw [hx1, if_neg Bool.false_ne_true]
  unfold getAttrByItsOwn hookBefore
  refine wpAny_bind ?_
  rw [if_pos (show onTheHeap (Value.ref D) = true from rfl)]
  refine L2.at ?_
  refine wpAny_bind (wpAny_attempt (wpAny_holding ?_))
  unfold callGetattribute
  rw [hx0, if_neg Bool.false_ne_true]
  unfold boundAndCalled
  rw [PySem.F.excAttr_ValueError.ga.bind (.ref x)]
  refine wpAny_bind (wpAny_pure ?_)
  show wpAny _ _ (call (.builtin "BaseException.__getattribute__") [.ref x, .str "__class__" t]) _ _ _
  refine wpAny_call (codeAny_call_builtin PySem.F.excAttr_ValueError.ga.plain PySem.F.entry_bexc_ga ?_)
  refine @check_slot (model prog w) _ _ ⟨hp, g, d, t + 1, os⟩ "BaseException.__getattribute__" "BaseException" "__getattribute__" (.ref x) [.str "__class__" t] [] _ (by decide +kernel) (by decide +kernel) sub (PySem.F.args_bexc_ga (.ref x) (.str "__class__" t)) ?_
  unfold Builtin.«object.__getattribute__»
  refine wpAny_bind (wpAny_of_eq (a := ((Value.ref x : Value), [Value.str "__class__" t])) (by first | rfl | (simp only [slotArgs]; rfl)) ?_)
  refine wpAny_bind (wpAny_pure (wpAny_bind (L0.at (wpAny_bind (L3.at ?_)))))
  show wpAny _ _ (holding [Value.builtin "object.__class__"] (call (.builtin "getset_descriptor.__get__") [.builtin "object.__class__", .ref x, .ref D]) >>= ret) _ _ _
  refine wpAny_bind (wpAny_holding (wpAny_call (class_get (s := ⟨hp, g, d, t + 1, os⟩) (ox := ox) (od := od) X I hm ?_)))
  refine wpAny_pure ?_
  show wpAny _ _ (handedOut (.ref D)) _ _ _
  rw [handedOut_of (v := .ref D) rfl]
  first
    | exact wpAny_pure (wpAny_pure h)
    | exact wpAny_pure h
    | exact wpAny_pure (wpAny_bind (wpAny_pure (wpAny_pure h)))
theorem kitx_excD (hga : findIn K (.ref D) "__getattribute__" = some (some (.builtin "BaseException.__getattribute__"))) (hgt : findIn K (.ref D) "__getattr__" = some none) (hsub : subIn K (.ref D) (.type "BaseException") = some true) (hdct : hasDictIn K D = true) (ha : findIn K (.ref D) "__class__" = some (some (.builtin "object.__class__")))
    (hn : specialIn K (.builtin "object.__class__") "__get__" = some (some (.builtin "getset_descriptor.__get__"))) (htk : takesIn K (.builtin "object.__class__") = some true) (hm : mroIn K D (.type "object") = some true) :
    KitX K (.ref x) (.ref D) (fun h => ∃ od, InstAt h x ox D od) where
  ty := fun _ _ _ ⟨_, I⟩ => I.type
  it := fun _ _ X _ => by
    obtain ⟨cdD, hcD, _⟩ := any_some hdct
    unfold clsIn at hcD
    split at hcD
    · rename_i c' d' cd' sl' ho
      intro A' Q' E' s' k q
      unfold isType loadHead
      exact wpAny_bind (wpAny_loadPart (k _ _ (X _ _ ho)) (wpAny_pure q))
    · cases hcD
  ne := fun h tp dd its n sl X htp => by
    obtain ⟨cdD, hcD, _⟩ := any_some hdct
    refine Bool.eq_false_iff.mpr fun q => ?_
    have e : D = tp := Value.ref.inj (beq_iff_eq.mp q)
    subst e
    unfold clsIn at hcD
    split at hcD
    · rename_i c' d' cd' sl' ho
      have z := (X _ _ ho).symm.trans htp
      cases z
    · cases hcD
  ca := fun X ⟨_, I⟩ k => kin_classED hga hgt hsub hdct ha hn htk hm X I k
end
end PySem.W
namespace Jw
open PySem PySem.Spec PyProof.Rows L2
noncomputable section
/-! ### a suite's small language -/
inductive HV where
  | bl (b : Bool) | st (x : Str) | lb (l : List Bool) | ls (l : List Str) | pr (x : Str)
abbrev HS := List (Option HV)
inductive HE where
  | isE (x : Str) | vr (i : Nat) | st (x : Str) | lb (l : List Str) | ls (l : List Str) | cat (a b : HE) | pick (i j : Nat) | one (j : Nat)
  | an (a b : HE) | ite (c a b : HE) | eqs (a : HE) (x : Str) | ins (a b : HE) | pr (a : HE) (f : Str)
inductive HX where
  | asg (i : Nat) (e : HE) | app (i : Nat) (x : Str) | iff (c : HE) (i : Nat) (e : HE)
section
variable (isa : Str → Option Bool) (fld : Option Str)
def isaL : List Str → Option (List Bool)
  | [] => some []
  | x :: xs => (isa x).bind fun b => (isaL xs).map fun bs => b :: bs
def hGet (S : HS) (i : Nat) : Option HV := (S[i]?).join
def idxT : List Bool → Option Nat
  | [] => none
  | true :: _ => some 0
  | false :: l => (idxT l).map (· + 1)
def heS (S : HS) : HE → Option HV
  | .isE x => (isa x).map .bl
  | .vr i => hGet S i
  | .st x => some (.st x)
  | .lb l => if l.length ≤ 20 then (isaL isa l).map .lb else none
  | .ls l => if l.length ≤ 20 then some (.ls l) else none
  | .cat a b => match heS S a, heS S b with
    | some (.lb x), some (.lb y) => if x.length + y.length ≤ 50 then some (.lb (x ++ y)) else none
    | _, _ => none
  | .pick i j => match hGet S i, hGet S j with
    | some (.ls ws), some (.lb bs) => (idxT bs).bind fun k => (ws[k]?).map .st
    | _, _ => none
  | .one j => match hGet S j with
    | some (.lb bs) => if bs.length ≤ 50 then some (.bl (bs.countP id == 1)) else none
    | _ => none
  | .an a b => match heS S a with
    | some (.bl true) => (match heS S b with
      | some (.bl c) => some (.bl c)
      | _ => none)
    | some (.bl false) => some (.bl false)
    | _ => none
  | .ite c a b => match heS S c with
    | some (.bl true) => heS S a
    | some (.bl false) => heS S b
    | _ => none
  | .eqs a x => match heS S a with
    | some (.st y) => some (.bl (decide (y = x)))
    | some (.pr _) => some (.bl false)
    | _ => none
  | .ins a b => match heS S a, heS S b with
    | some (.st y), some (.ls l) => some (.bl (l.any fun x => decide (y = x)))
    | _, _ => none
  | .pr a f => if fld = some f then (match heS S a with
    | some (.st y) => some (.pr y)
    | _ => none) else none
/-- no list but at i -/
def aloneAt (S : HS) (i : Nat) : Bool := (List.range S.length).all fun j => decide (j = i) || (match hGet S j with
  | some (.lb _) => false
  | some (.ls _) => false
  | some (.pr _) => false
  | _ => true)
def hx1 (ie : Nat) (S : HS) : HX → Option HS
  | .asg i e => if i = ie then none else (heS isa fld S e).map fun v => S.set i (some v)
  | .app i x => match hGet S i, isa x with
    | some (.lb l), some b => if aloneAt S i && decide (l.length ≤ 20) then some (S.set i (some (.lb (l ++ [b])))) else none
    | _, _ => none
  | .iff c i e => match heS isa fld S c with
    | some (.bl true) => if i = ie then none else (heS isa fld S e).map fun v => S.set i (some v)
    | some (.bl false) => some S
    | _ => none
def hxS (ie : Nat) : List HX → HS → Option HS
  | [], S => some S
  | x :: r, S => (hx1 isa fld ie S x).bind (hxS ie r)
end

/-! ### what it stands for -/
structure HD where
  a : Addr
  D : Addr
  d : Option Addr
  ie : Nat
  H0 : Hp
  arg : V
def HR (h : HD) (H : Hp) : HV → V → Prop
  | .bl b, v => v = .bl b
  | .st x, v => v = .str x
  | .lb l, v => ∃ p, v = .ref p ∧ H p = some (.lst (l.map .bl)) ∧ h.H0 p = none
  | .ls l, v => ∃ p, v = .ref p ∧ H p = some (.lst (l.map .str))
  | .pr x, v => ∃ p, v = .ref p ∧ H p = some (.tup [.str x, h.arg])
structure HSim (h : HD) (fld : Option Str) (S : HS) (σ : L2.St) (H : Hp) : Prop where
  sl : ∀ i hv, hGet S i = some hv → ∃ v, σ[i]? = some (some v) ∧ HR h H hv v
  se : σ[h.ie]? = some (some (.ref h.a))
  ext : ∀ b o, h.H0 b = some o → H b = some o
  fl : ∀ f, fld = some f → ∃ dd, h.d = some dd ∧ H dd = some (.xd [(f, h.arg)])
  dd : ∀ dd, h.d = some dd → ∃ fs, H dd = some (.xd fs)
abbrev Ex' (H H' : Hp) : Prop := ∀ b o, H b = some o → H' b = some o
section
variable {h : HD} {fld : Option Str} {S : HS} {σ : L2.St} {H H' : Hp}
theorem HR.ext (e : Ex' H H') : ∀ {x : HV} {v : V}, HR h H x v → HR h H' x v
  | .bl b, v, q => q
  | .st x, v, q => q
  | .lb l, v, ⟨p, q1, q2, q3⟩ => ⟨p, q1, e _ _ q2, q3⟩
  | .ls l, v, ⟨p, q1, q2⟩ => ⟨p, q1, e _ _ q2⟩
  | .pr x, v, ⟨p, q1, q2⟩ => ⟨p, q1, e _ _ q2⟩
theorem HSim.mono (q : HSim h fld S σ H) (e : Ex' H H') : HSim h fld S σ H' :=
  ⟨fun i hv g => (q.sl i hv g).imp fun v z => ⟨z.1, z.2.ext e⟩, q.se, fun b o z => e _ _ (q.ext b o z), fun f z => (q.fl f z).imp fun dd y => ⟨y.1, e _ _ y.2⟩, fun dd z => (q.dd dd z).imp fun fs y => e _ _ y⟩
theorem ext_new {p : Addr} {u : HO} (hp : H p = none) : Ex' H (upd H p u) := fun b o z => by rw [upd_ne (fun y => by rw [y, hp] at z; cases z)]; exact z
theorem hGet_set {S : HS} {i : Nat} {v : HV} {j : Nat} {hv : HV} (g : hGet (S.set i (some v)) j = some hv) : (j = i ∧ hv = v) ∨ (j ≠ i ∧ hGet S j = some hv) := by
  unfold hGet at g ⊢
  by_cases e : j = i
  · subst e
    by_cases hl : j < S.length
    · rw [List.getElem?_set_self hl] at g
      exact .inl ⟨rfl, (Option.some.inj g).symm⟩
    · rw [List.getElem?_eq_none (by simpa using hl)] at g; cases g
  · rw [List.getElem?_set_ne (Ne.symm e)] at g
    exact .inr ⟨e, g⟩
theorem HSim.set {i : Nat} {hv : HV} {v : V} (q : HSim h fld S σ H) (hi : i < σ.length) (ne : i ≠ h.ie) (r : HR h H hv v) : HSim h fld (S.set i (some hv)) (σ.set i (some v)) H :=
  ⟨fun j w g => by
    rcases hGet_set g with ⟨rfl, rfl⟩ | ⟨e, g⟩
    · exact ⟨v, List.getElem?_set_self hi, r⟩
    · obtain ⟨u, z1, z2⟩ := q.sl j w g
      exact ⟨u, by rw [List.getElem?_set_ne (Ne.symm e)]; exact z1, z2⟩, by rw [List.getElem?_set_ne ne]; exact q.se, q.ext, q.fl, q.dd⟩
end
/-- what isinstance answers of the class -/
def IsaF (K : PySem.W.Frag) (mg : Str → Option Value) (D : Addr) (x : Str) (b : Bool) : Prop := (x = "ValueError" ∧ mg x = none ∧ PySem.W.kitOne K (.ref D) (.type "ValueError") = some b) ∨ ∃ p, mg x = some (.ref p) ∧ PySem.W.kitOne K (.ref D) (.ref p) = some b
section
variable {X : Cx} {a : Addr} {oe : Obj} {pn : List (Addr × Obj)} {h : HD} {isa : Str → Option Bool} {fld : Option Str}
def rIsD (K : PySem.W.Frag) (D a : Addr) (d : Option Addr) : List V → Hp → VK → Prop := fun xs H Q => ∃ (c : V) (cv : Value) (b : Bool), xs = [.ref a, c] ∧ (∀ u, RelV c u → u = cv) ∧ PySem.W.kitOne K (.ref D) cv = some b ∧ (∀ dd, d = some dd → ∃ o, H dd = some o) ∧ Q (.bl b) H
theorem call_isD {D : Addr} {d : Option Addr} (T : ExcC X.K D) (hz : Zc (.ref D) d oe) (hf : ∃ vs, oe.data = .fields vs) : CallR (X.suite a ((a, oe) :: pn)) (.builtin "isinstance") (rIsD X.K D a d) := by
  intro pins s σ H xs us Q I r h
  obtain ⟨c, cv, b, rfl, hcv, e, hd, q⟩ := h
  cases r with
  | cons rx rr =>
    cases rr with
    | cons rt rr =>
      cases rr
      cases rx
      have ec := hcv _ rt
      subst ec
      obtain ⟨hget, _⟩ := I.pin (a, oe) (List.mem_append.mpr (.inl List.mem_cons_self))
      obtain ⟨vs, hv⟩ := hf
      have J : ∃ od, PySem.W.InstAt s.heap a oe D od := by
        obtain ⟨oc, od, oda, osl⟩ := oe
        obtain ⟨h1, h2⟩ := hz
        dsimp only at h1 h2 hv
        subst h1 h2 hv
        cases od with
        | none => exact ⟨none, hget, rfl, rfl, trivial⟩
        | some dd =>
          obtain ⟨o, ho⟩ := hd dd rfl
          obtain ⟨ob, hob⟩ := objOk_get (I.hok dd o ho)
          exact ⟨some ob, hget, rfl, rfl, hob⟩
      exact PySem.W.kia_one (PySem.W.kitx_excD T.hg T.hk T.hs T.hd T.ha T.hn T.ht T.hm) I.kIn J e (fun z => nomatch z) fun tk => ⟨.bl b, H, I.kept (t' := tk) fun _ _ z => z, rfl, q⟩
variable (h isa fld) in
/-- readings -/
def tH (x : HE) : TE := fun σ H Q => ∃ S hv, HSim h fld S σ H ∧ heS isa fld S x = some hv ∧ ∀ v H', Ex' H H' → HR h H' hv v → Q v H'
variable (h isa fld) in
def tHB (x : HE) : TT := fun σ H Q => ∃ S b, HSim h fld S σ H ∧ heS isa fld S x = some (.bl b) ∧ ∀ H', Ex' H H' → Q b H'
variable (h isa fld) in
structure SndH (Z : Cx) (e : Expr) (x : HE) : Prop where
  nice : Nice e
  pe : PE Z e (tH h isa fld x)
  pt : PT Z e (tHB h isa fld x)
theorem SndH.val {Z : Cx} {e : Expr} {x : HE} (n : Nice e) (p : PE Z e (tH h isa fld x)) (he : ∀ whole, isTrue e Z.env whole = (do let v ← whole; standAt e.pos; holding [v] (truthy v))) : SndH h isa fld Z e x :=
  ⟨n, p, (pt_val p he).mono fun σ H Q ⟨S, b, s, e, q⟩ => ⟨S, .bl b, s, e, fun v H' ex r => ⟨b, r, q H' ex⟩⟩⟩
section
variable {Z : Cx} {e e1 e2 e3 : Expr} {x y z : HE} {pos : Pos}
theorem sndh_vr {i : Nat} {n : Str} (hN : Z.N[i]? = some n) (hv : Vis Z.env.scope n) (hd : (n == ("__debug__" : Str)) = false) (hcd : (n == ("__classdict__" : Str)) = false) : SndH h isa fld Z (.Name n pos) (.vr i) :=
  .val ⟨fun _ _ => rfl, fun _ _ => rfl, fun _ _ => rfl, fun op => by cases op <;> rfl, fun _ _ _ => rfl, fun _ _ _ _ => rfl⟩ ((pe_var hN hv hd hcd).mono fun σ H Q ⟨S, hv, s, e, q⟩ => by
    obtain ⟨v, z1, z2⟩ := s.sl i hv e
    exact ⟨v, z1, q v H (fun _ _ z => z) z2⟩) fun _ => rfl
theorem sndh_st {t : Str} {j : Nat} : SndH h isa fld Z (.Constant (.str t) j pos) (.st t) :=
  .val ⟨fun _ _ => rfl, fun _ _ => rfl, fun _ _ => rfl, fun op => by cases op <;> rfl, fun _ _ _ => rfl, fun _ _ _ _ => rfl⟩ (pe_str.mono fun σ H Q ⟨S, hv, s, e, q⟩ => by
    cases e
    exact q (.str t) H (fun _ _ z => z) rfl) fun _ => rfl
theorem pa_strs : ∀ {es : List Expr} {l : List Str}, (es.length = l.length ∧ ∀ (i : Nat) (e : Expr) (x : Str), es[i]? = some e → l[i]? = some x → ∃ j p, e = Expr.Constant (.str x) j p) → PA Z es (fun σ H Q => Q (l.map .str) H)
  | [], [], _ => pa_nil
  | e :: es, x :: l, ⟨h1, h2⟩ => by
    obtain ⟨j, p, rfl⟩ := h2 0 e x rfl rfl
    exact pa_cons pe_str (pa_strs ⟨by simpa using h1, fun i e y q1 q2 => h2 (i + 1) e y (by simpa using q1) (by simpa using q2)⟩)
  | [], _ :: _, h => by cases h.1
  | _ :: _, [], h => by cases h.1
theorem sndh_ls {es : List Expr} {l : List Str} (hp : PA Z es (fun σ H Q => Q (l.map .str) H)) : SndH h isa fld Z (.List es pos) (.ls l) :=
  .val ⟨fun _ _ => rfl, fun _ _ => rfl, fun _ _ => rfl, fun op => by cases op <;> rfl, fun _ _ _ => rfl, fun _ _ _ _ => rfl⟩ ((pe_lst hp).mono fun σ H Q ⟨S, hv, s, e, q⟩ => by
    have e : (if l.length ≤ 20 then some (HV.ls l) else none) = some hv := e
    by_cases hl : l.length ≤ 20
    · rw [if_pos hl] at e
      cases e
      refine ⟨by rw [List.length_map, sizeLine_eq]; omega, fun p hp => q _ _ (ext_new hp) ⟨p, rfl, upd_same⟩⟩
    · rw [if_neg hl] at e; cases e) fun _ => rfl
theorem sndh_lb {es : List Expr} {l : List Str} (hp : PA Z es (fun σ H Q => ∃ S bs, HSim h fld S σ H ∧ isaL isa l = some bs ∧ ∀ H', Ex' H H' → Q (bs.map .bl) H')) (hlen : ∀ bs, isaL isa l = some bs → bs.length = l.length) : SndH h isa fld Z (.List es pos) (.lb l) :=
  .val ⟨fun _ _ => rfl, fun _ _ => rfl, fun _ _ => rfl, fun op => by cases op <;> rfl, fun _ _ _ => rfl, fun _ _ _ _ => rfl⟩ ((pe_lst hp).mono fun σ H Q ⟨S, hv, s, e, q⟩ => by
    have e : (if l.length ≤ 20 then (isaL isa l).map HV.lb else none) = some hv := e
    by_cases hl : l.length ≤ 20
    · rw [if_pos hl] at e
      cases e2 : isaL isa l with
      | none => rw [e2] at e; cases e
      | some bs =>
        rw [e2] at e
        cases e
        refine ⟨S, bs, s, rfl, fun H' ex => ⟨by rw [List.length_map, hlen bs e2, sizeLine_eq]; omega, fun p hp => q _ _ (fun b o z => ext_new hp b o (ex b o z)) ⟨p, rfl, upd_same, ?_⟩⟩⟩
        cases z : h.H0 p with
        | none => rfl
        | some o => rw [ex p o (s.ext p o z)] at hp; cases hp
    · rw [if_neg hl] at e; cases e) fun _ => rfl
theorem sndh_cat (ha : SndH h isa fld Z e1 x) (hb : SndH h isa fld Z e2 y) : SndH h isa fld Z (.BinOp e1 .Add e2 pos) (.cat x y) :=
  .val ⟨fun _ _ => rfl, fun _ _ => rfl, fun _ _ => rfl, fun op => by cases op <;> rfl, fun _ _ _ => rfl, fun _ _ _ _ => rfl⟩ ((pe_op op_cat ha.pe hb.pe).mono fun σ H Q ⟨S, hv, s, e, q⟩ => by
    unfold heS at e
    split at e
    · rename_i l1 l2 q1 q2
      by_cases hl : l1.length + l2.length ≤ 50
      · rw [if_pos hl] at e
        cases e
        refine ⟨S, _, s, q1, fun v H1 x1 r1 => ⟨S, _, s.mono x1, q2, fun u H2 x2 r2 => ?_⟩⟩
        obtain ⟨p1, rfl, z1, z2⟩ := r1
        obtain ⟨p2, rfl, z3, z4⟩ := r2
        refine ⟨p1, p2, _, _, rfl, rfl, x2 _ _ z1, z3, by rw [List.length_map, List.length_map, sizeLine_eq]; omega, fun p hp => q _ _ (fun b o z => ext_new hp b o (x2 b o (x1 b o z))) ⟨p, rfl, by rw [List.map_append]; exact upd_same, ?_⟩⟩
        cases z : h.H0 p with
        | none => rfl
        | some o => rw [x2 _ _ (x1 p o (s.ext p o z))] at hp; cases hp
      · rw [if_neg hl] at e; cases e
    · cases e) fun _ => rfl
theorem sndh_ite {c : Expr} (hc : SndH h isa fld Z c z) (ha : SndH h isa fld Z e1 x) (hb : SndH h isa fld Z e2 y) : SndH h isa fld Z (.IfExp c e1 e2 pos) (.ite z x y) := by
  refine ⟨⟨fun _ _ => rfl, fun _ _ => rfl, fun _ _ => rfl, fun op => by cases op <;> rfl, fun _ _ _ => rfl, fun _ _ _ _ => rfl⟩, (pe_ifExp hc.pt ha.pe hb.pe).mono fun σ H Q ⟨S, hv, s, e, q⟩ => ?_, ⟨fun pins s σ H Q I hh => isTrue_IfExp ?_⟩⟩
  · unfold heS at e
    split at e
    · rename_i q1
      exact ⟨S, true, s, q1, fun H1 x1 => by dsimp only; rw [if_pos rfl]; exact ⟨S, hv, s.mono x1, e, fun v H2 x2 r => q v H2 (fun b o z => x2 b o (x1 b o z)) r⟩⟩
    · rename_i q1
      exact ⟨S, false, s, q1, fun H1 x1 => by dsimp only; rw [if_neg (by decide)]; exact ⟨S, hv, s.mono x1, e, fun v H2 x2 r => q v H2 (fun b o z => x2 b o (x1 b o z)) r⟩⟩
    · cases e
  · obtain ⟨S, b, s1, e, q⟩ := hh
    unfold heS at e
    split at e
    · rename_i q1
      refine thn (hc.pt.run pins s σ H (fun k H1 => k = true ∧ Ex' H H1) I ⟨S, true, s1, q1, fun H1 x1 => ⟨rfl, x1⟩⟩) fun k s2 ⟨H1, I1, ek, x1⟩ => ?_
      subst ek
      exact ha.pt.run pins s2 σ H1 Q I1 ⟨S, b, s1.mono x1, e, fun H2 x2 => q H2 fun b o z => x2 b o (x1 b o z)⟩
    · rename_i q1
      refine thn (hc.pt.run pins s σ H (fun k H1 => k = false ∧ Ex' H H1) I ⟨S, false, s1, q1, fun H1 x1 => ⟨rfl, x1⟩⟩) fun k s2 ⟨H1, I1, ek, x1⟩ => ?_
      subst ek
      exact hb.pt.run pins s2 σ H1 Q I1 ⟨S, b, s1.mono x1, e, fun H2 x2 => q H2 fun b o z => x2 b o (x1 b o z)⟩
    · cases e
theorem an_inv {S : HS} {hv : HV} (e : heS isa fld S (.an x y) = some hv) : (∃ c, heS isa fld S x = some (.bl true) ∧ heS isa fld S y = some (.bl c) ∧ hv = .bl c) ∨ (heS isa fld S x = some (.bl false) ∧ hv = .bl false) := by
  unfold heS at e
  split at e
  · rename_i q1
    split at e
    · rename_i c q2
      cases e
      exact .inl ⟨c, q1, q2, rfl⟩
    · cases e
  · rename_i q1
    cases e
    exact .inr ⟨q1, rfl⟩
  · cases e
theorem sndh_an (ha : SndH h isa fld Z e1 x) (hb : SndH h isa fld Z e2 y) : SndH h isa fld Z (.BoolOp .And [e1, e2] pos) (.an x y) := by
  refine ⟨⟨fun _ _ => rfl, fun _ _ => rfl, fun _ _ => rfl, fun op => by cases op <;> rfl, fun _ _ _ => rfl, fun _ _ _ _ => rfl⟩, (pe_and ha.pe (pe_one hb.pe)).mono fun σ H Q ⟨S, hv, s, e, q⟩ => ?_, (PW.pt (pw_and ha.pt (pw_and1 hb.pt))).mono fun σ H Q ⟨S, b, s, e, q⟩ => ?_⟩
  · rcases an_inv e with ⟨c, q1, q2, rfl⟩ | ⟨q1, rfl⟩
    · refine ⟨S, _, s, q1, fun v H1 x1 r1 => ⟨true, r1, ?_⟩⟩
      try dsimp only
      rw [if_pos rfl]
      exact ⟨S, _, s.mono x1, q2, fun u H2 x2 r2 => q u H2 (fun b o z => x2 b o (x1 b o z)) r2⟩
    · refine ⟨S, _, s, q1, fun v H1 x1 r1 => ⟨false, r1, ?_⟩⟩
      try dsimp only
      rw [if_neg (by decide)]
      exact q _ _ x1 rfl
  · rcases an_inv e with ⟨c, q1, q2, ec⟩ | ⟨q1, ec⟩
    · cases ec
      refine ⟨S, true, s, q1, fun H1 x1 => ?_⟩
      try dsimp only
      rw [if_pos rfl]
      exact ⟨S, b, s.mono x1, q2, fun H2 x2 => q H2 fun b o z => x2 b o (x1 b o z)⟩
    · cases ec
      refine ⟨S, false, s, q1, fun H1 x1 => ?_⟩
      try dsimp only
      rw [if_neg (by decide)]
      exact q _ x1
/-- a comparison -/
theorem SndH.cmp {op : CmpOp} {r : R2} {ta tb : TE} {w : HE} (ho : OpR Z (compareOp op) r) (ha : PE Z e1 ta) (hb : PE Z e2 tb) (hm : behindInMarks op e2 = false) (hg : ∀ σ H Q, tH h isa fld w σ H Q → tOp r ta tb σ H Q) : SndH h isa fld Z (.Compare e1 [op] [e2] pos) w :=
  ⟨⟨fun _ _ => rfl, fun _ _ => rfl, fun _ _ => rfl, fun op => by cases op <;> rfl, fun _ _ _ => rfl, fun _ _ _ _ => rfl⟩, (pe_cmpR ho ha hb hm).mono hg, (pt_cmpR ho ha hb hm).mono fun σ H Q ⟨S, b, s, e, q⟩ => hg σ H _ ⟨S, .bl b, s, e, fun v H' ex r => ⟨b, r, q H' ex⟩⟩⟩
/-- a text or a tuple against a text -/
def rEqTS : R2 := fun x y H Q => (scal x y = true ∧ Q (.bl (decide (x = y))) H) ∨ ∃ p vs t, x = .ref p ∧ y = .str t ∧ H p = some (.tup vs) ∧ Q (.bl false) H
theorem op_eqTS (hu : Z.A.units < cLine) : OpR Z (compareOp .Eq) rEqTS := by
  intro pins s σ H x y v u Q I rx ry h
  rcases h with h | ⟨p, vs, t, rfl, rfl, hp, q⟩
  · exact op_eq pins s σ H x y v u Q I rx ry h
  · cases (show v = Value.ref p from rx)
    obtain ⟨t', rfl⟩ := ry
    obtain ⟨its, r, hT, _⟩ := I.tuple (.inl (.inl hp))
    exact SeqAt.RcAt.tuple_str t t' hT hu _ _ _ _ ⟨.bl false, H, I, rfl, q⟩
theorem sndh_eqs {t : Str} {j : Nat} {p2 : Pos} (hu : Z.A.units < cLine) (ha : SndH h isa fld Z e1 x) : SndH h isa fld Z (.Compare e1 [.Eq] [.Constant (.str t) j p2] pos) (.eqs x t) :=
  .cmp (op_eqTS hu) ha.pe pe_str rfl fun σ H Q ⟨S, hv, s, e, q⟩ => by
    unfold heS at e
    split at e
    rotate_left
    · rename_i y q1
      cases e
      refine ⟨S, _, s, q1, fun v H1 x1 r1 => ?_⟩
      obtain ⟨p, rfl, hp⟩ := r1
      exact .inr ⟨p, _, t, rfl, rfl, hp, q _ _ x1 rfl⟩
    rotate_right
    · rename_i y q1
      cases e
      refine ⟨S, _, s, q1, fun v H1 x1 r1 => ?_⟩
      have r1 : v = .str y := r1
      subst r1
      refine .inl ⟨rfl, ?_⟩
      have : decide (V.str y = V.str t) = decide (y = t) := decide_eq_decide.mpr ⟨fun q => V.str.inj q, fun q => by rw [q]⟩
      rw [this]
      exact q _ _ x1 rfl
    · cases e
theorem inV_strs (y : Str) : ∀ l : List Str, inV (.str y) (l.map .str) = l.any fun x => decide (y = x)
  | [] => rfl
  | x :: l => by
    have e := inV_strs y l
    unfold inV at e ⊢
    rw [List.map_cons, List.any_cons, List.any_cons, e]
    congr 1
    rw [Bool.eq_iff_iff, decide_eq_true_iff]
    first
      | exact ⟨fun q => (beq_iff_eq.mp (show (x == y) = true from q)).symm, fun q => show (x == y) = true from beq_iff_eq.mpr q.symm⟩
      | exact ⟨fun q => beq_iff_eq.mp (show (y == x) = true from q), fun q => show (y == x) = true from beq_iff_eq.mpr q⟩
theorem sndh_ins (ha : SndH h isa fld Z e1 x) (hb : SndH h isa fld Z e2 y) : SndH h isa fld Z (.Compare e1 [.In] [e2] pos) (.ins x y) :=
  .cmp op_in_seq ha.pe hb.pe (hb.nice.mark _) fun σ H Q ⟨S, hv, s, e, q⟩ => by
    unfold heS at e
    split at e
    · rename_i w l q1 q2
      cases e
      refine ⟨S, _, s, q1, fun v H1 x1 r1 => ⟨S, _, s.mono x1, q2, fun u H2 x2 r2 => ?_⟩⟩
      have r1 : v = .str w := r1
      subst r1
      obtain ⟨p, rfl, z⟩ := r2
      refine ⟨p, _, rfl, .inl (SqL.of z), rfl, List.all_eq_true.mpr fun v hv => by
        obtain ⟨x, _, rfl⟩ := List.mem_map.mp hv
        rfl, ?_⟩
      show Q (.bl (inV (.str w) (l.map .str))) H2
      rw [inV_strs]
      exact q _ _ (fun b o z => x2 b o (x1 b o z)) rfl
    · cases e
theorem idxT_ok : ∀ {l : List Bool} {k : Nat}, idxT l = some k → l[k]? = some true ∧ ∀ m, m < k → l[m]? = some false
  | true :: l, k, e => by
    cases e
    exact ⟨rfl, fun m hm => absurd hm (Nat.not_lt_zero _)⟩
  | false :: l, k, e => by
    have e : (idxT l).map (· + 1) = some k := e
    cases e2 : idxT l with
    | none => rw [e2] at e; cases e
    | some j =>
      rw [e2] at e
      cases e
      obtain ⟨q1, q2⟩ := idxT_ok e2
      refine ⟨by simpa using q1, fun m hm => ?_⟩
      cases m with
      | zero => rfl
      | succ m =>
        have hm : m + 1 < j + 1 := hm
        simpa using q2 m (by omega)
theorem flat_bls (l : List Bool) : (l.map V.bl).all flatV = true := List.all_eq_true.mpr fun v hv => by
  obtain ⟨x, _, rfl⟩ := List.mem_map.mp hv
  rfl
theorem listV {K : PySem.W.Frag} {p : Addr} {xs : List V} {H : Hp} (e : H p = some (.lst xs)) : tyV K "list" (.ref p) H := .inl ⟨rfl, xs, SqL.of e⟩
/-- words[known.index(True)] -/
theorem sndh_pick {i j : Nat} {ni nj : Str} {p1 p2 p3 apos cpos : Pos} {kt : Nat} (hN1 : Z.N[i]? = some ni) (hv1 : Vis Z.env.scope ni) (hd1 : (ni == ("__debug__" : Str)) = false) (hc1 : (ni == ("__classdict__" : Str)) = false) (hN2 : Z.N[j]? = some nj) (hv2 : Vis Z.env.scope nj) (hd2 : (nj == ("__debug__" : Str)) = false) (hc2 : (nj == ("__classdict__" : Str)) = false)
    (hl : (apos.endLine == cpos.line) = true) : SndH h isa fld Z (.Subscript (.Name ni p1) (.Call (.Attribute (.Name nj p2) "index" apos) [.Constant (.bool true) kt p3] [] cpos) pos) (.pick i j) :=
  .val ⟨fun _ _ => rfl, fun _ _ => rfl, fun _ _ => rfl, fun op => by cases op <;> rfl, fun _ _ _ => rfl, fun _ _ _ _ => rfl⟩ ((pe_ix ix_list (pe_var hN1 hv1 hd1 hc1) (pe_bm F.plainAttrs_list PySem.F.slot_list_index PySem.F.type_list_index mt_index (pe_var hN2 hv2 hd2 hc2) (pa_cons pe_bl pa_nil) rfl rfl hl rfl rfl) (fun _ _ => rfl)).mono fun σ H Q ⟨S, hv, s, e, q⟩ => by
    unfold heS at e
    split at e
    · rename_i ws bs q1 q2
      cases e2 : idxT bs with
      | none => rw [e2] at e; cases e
      | some k =>
        rw [e2] at e
        have e : (ws[k]?).map HV.st = some hv := e
        cases e3 : ws[k]? with
        | none => rw [e3] at e; cases e
        | some x =>
          rw [e3] at e
          cases e
          obtain ⟨u, z1, pu, rfl, z2⟩ := s.sl i _ q1
          obtain ⟨w, z3, pw, rfl, z4, z5⟩ := s.sl j _ q2
          obtain ⟨k1, k2⟩ := idxT_ok e2
          refine ⟨_, z1, _, z3, listV z4, ?_⟩
          refine ⟨pw, _, .bl true, k, .bl true, rfl, rfl, SqL.of z4, rfl, flat_bls bs, by rw [List.getElem?_map, k1]; rfl, rfl, fun m z' hm hz => ?_, ?_⟩
          · rw [List.getElem?_map, k2 m hm] at hz
            cases hz
            rfl
          · refine ⟨pu, _, (k : Nat), .str x, rfl, rfl, SqL.of z2, ?_, q _ H (fun _ _ z => z) rfl⟩
            exact atI_nat (by rw [List.getElem?_map, e3]; rfl)
    · cases e) fun _ => rfl
/-- known.count(True) -/
def rCntT (K : PySem.W.Frag) : V → List V → Hp → VK → Prop := fun x xs H Q => ∃ (p : Addr) (bs : List Bool), x = .ref p ∧ xs = [.bl true] ∧ SqL K H p (bs.map .bl) ∧ Q (.int ((bs.countP id : Nat) : Int)) H
theorem dpAll_bls {K : PySem.W.Frag} {H : Hp} : ∀ bs : List Bool, DpAll K H (bs.map .bl) (bs.map PyData.bool)
  | [] => .nil
  | b :: bs => .cons (.bl b) (dpAll_bls bs)
theorem plain_bls : ∀ bs : List Bool, PyData.plainAll (bs.map PyData.bool) = true
  | [] => rfl
  | b :: bs => by
    have := plain_bls bs
    simp [PyData.plainAll, PyData.plain, this]
theorem depth_bls : ∀ bs : List Bool, PyData.depthAll (bs.map PyData.bool) ≤ 1
  | [] => by simp [PyData.depthAll]
  | b :: bs => by
    have := depth_bls bs
    simp [PyData.depthAll, PyData.depth]
    omega
theorem count_bls : ∀ bs : List Bool, (bs.map PyData.bool).countP (fun y => PyData.eqv y (.bool true)) = bs.countP id
  | [] => rfl
  | b :: bs => by
    rw [List.map_cons, List.countP_cons, List.countP_cons, count_bls bs]
    cases b <;> rfl
theorem mt_cntT (hu : Z.A.units + 64 < cLine) : MtR Z "list.count" (rCntT Z.K) := by
  intro pins s σ H x xs v us Q I rx rxs h
  obtain ⟨p, bs, rfl, rfl, hq, q⟩ := h
  cases rx
  cases rxs with
  | cons ry rt =>
    cases rt
    obtain ⟨its, rv, pl, hz⟩ := I.list hq
    obtain ⟨as, q2⟩ := Dp.readsAll I _ _ _ (dpAll_bls bs) rv
    obtain ⟨as1, q1⟩ := Dp.reads I (.bool true) _ _ (.bl true) ry
    refine PySem.SeqAt.count_list_data pl.isList (by simpa using q2) q1 (plain_bls bs) rfl (by have := depth_bls bs; simp [PyData.depth]; omega) ?_
    rw [count_bls]
    exact ⟨.int ((bs.countP id : Nat) : Int), H, I.tok _, ⟨_, rfl⟩, q⟩
theorem sndh_one {j : Nat} {nj : Str} {p2 apos cpos p3 p4 : Pos} {kt ki : Nat} (hu : Z.A.units + 64 < cLine) (hN2 : Z.N[j]? = some nj) (hv2 : Vis Z.env.scope nj) (hd2 : (nj == ("__debug__" : Str)) = false) (hc2 : (nj == ("__classdict__" : Str)) = false)
    (hl : (apos.endLine == cpos.line) = true) : SndH h isa fld Z (.Compare (.Call (.Attribute (.Name nj p2) "count" apos) [.Constant (.bool true) kt p4] [] cpos) [.Eq] [.Constant (.int 1) ki p3] pos) (.one j) :=
  .cmp op_eq (pe_bm F.plainAttrs_list PySem.F.slot_list_count PySem.F.type_list_count (mt_cntT hu) (pe_var hN2 hv2 hd2 hc2) (pa_cons pe_bl pa_nil) rfl rfl hl rfl rfl) pe_int rfl fun σ H Q ⟨S, hv, s, e, q⟩ => by
    unfold heS at e
    split at e
    · rename_i bs q2
      by_cases hb : bs.length ≤ 50
      · rw [if_pos hb] at e
        cases e
        obtain ⟨w, z3, pw, rfl, z4, z5⟩ := s.sl j _ q2
        refine ⟨_, z3, listV z4, pw, bs, rfl, rfl, SqL.of z4, rfl, ?_⟩
        have : decide (V.int ((bs.countP id : Nat) : Int) = V.int 1) = (bs.countP id == 1) := by
          rw [Bool.eq_iff_iff, decide_eq_true_iff, beq_iff_eq]
          exact ⟨fun z => by have := V.int.inj z; omega, fun z => by rw [z]; rfl⟩
        rw [this]
        exact q _ H (fun _ _ z => z) rfl
      · rw [if_neg hb] at e; cases e
    · cases e
end
/-! ### in the suite -/
section
variable {cls : Value} {d : Option Addr} {pos : Pos}
/-- what is known of a caught exception's class -/
structure ClsF (K : PySem.W.Frag) (D : Addr) (fld : Option Str) : Prop where
  ex : ExcC K D
  fl : ∀ f, fld = some f → XfC K D ∧ PySem.W.findIn K (.ref D) f = some none
theorem pe_isE {n x : Str} {b : Bool} {p p1 p2 : Pos} (T : ClsF X.K h.D fld) (hz : Zc (.ref h.D) h.d oe) (hf : ∃ vs, oe.data = .fields vs) (ha : h.a = a) (hN : X.N[h.ie]? = some n) (hv : Vis X.env.scope n) (hd : (n == ("__debug__" : Str)) = false) (hc : (n == ("__classdict__" : Str)) = false)
    (hi : Gl X "isinstance") (hmi : X.mg "isinstance" = none) (hg : Gl X x) (hgd : (x == ("__debug__" : Str)) = false) (hF : IsaF X.K X.mg h.D x b) :
    PE (X.suite a ((a, oe) :: pn)) (.Call (.Name "isinstance" p) [.Name n p1, .Name x p2] [] pos) (fun σ H Q => ∃ S, HSim h fld S σ H ∧ Q (.bl b) H) := by
  subst ha
  have hN : (X.suite h.a ((h.a, oe) :: pn)).N[h.ie]? = some n := hN
  have hb : bootBuiltins "isinstance" = some (.builtin "isinstance") := by decide +kernel
  rcases hF with ⟨rfl, hm, hk⟩ | ⟨q, hm, hk⟩
  · have hbv : bootBuiltins "ValueError" = some (.type "ValueError") := by decide +kernel
    exact (pe_callB (X := X.suite h.a ((h.a, oe) :: pn)) (call_isD T.ex hz hf) hi hmi hb (pa_cons (pe_var (X := X.suite h.a ((h.a, oe) :: pn)) hN hv hd hc) (pa_cons (pe_bltn (X := X.suite h.a ((h.a, oe) :: pn)) (v := .ty "ValueError") hg hm hbv rfl) pa_nil))).mono fun σ H Q ⟨S, s, q⟩ =>
      ⟨_, s.se, .ty "ValueError", .type "ValueError", b, rfl, fun u hu => hu, hk, fun dd e => (s.dd dd e).imp' _ fun fs z => z, q⟩
  · exact (pe_callB (X := X.suite h.a ((h.a, oe) :: pn)) (call_isD T.ex hz hf) hi hmi hb (pa_cons (pe_var (X := X.suite h.a ((h.a, oe) :: pn)) hN hv hd hc) (pa_cons (pe_glob (X := X.suite h.a ((h.a, oe) :: pn)) (v := .ref q) hg hm rfl hgd) pa_nil))).mono fun σ H Q ⟨S, s, q'⟩ =>
      ⟨_, s.se, .ref q, .ref q, b, rfl, fun u hu => hu, hk, fun dd e => (s.dd dd e).imp' _ fun fs z => z, q'⟩
/-- (word, e.f) -/
theorem pe_prH {n f : Str} {e : Expr} {x : HE} {k : Nat} {p1 p2 : Pos} (T : ClsF X.K h.D fld) (hz : Zc (.ref h.D) h.d oe) (hf : ∃ vs, oe.data = .fields vs) (ha : h.a = a) (hN : X.N[h.ie]? = some n) (hv : Vis X.env.scope n) (hd : (n == ("__debug__" : Str)) = false) (hc : (n == ("__classdict__" : Str)) = false)
    (hff : fld = some f) (he : SndH h isa fld (X.suite a ((a, oe) :: pn)) e x) : SndH h isa fld (X.suite a ((a, oe) :: pn)) (.Tuple [e, .Attribute (.Name n p1) f p2] k pos) (.pr x f) := by
  subst ha
  obtain ⟨T2, hno⟩ := T.fl f hff
  refine .val ⟨fun _ _ => rfl, fun _ _ => rfl, fun _ _ => rfl, fun op => by cases op <;> rfl, fun _ _ _ => rfl, fun _ _ _ _ => rfl⟩ ((pe_tup (pa_cons he.pe (pa_cons (pe_xf T2 hno hz hf (pe_var (X := X.suite h.a ((h.a, oe) :: pn)) hN hv hd hc)) pa_nil) (he.nice.star _ _))).mono fun σ H Q ⟨S, hv, s, e, q⟩ => ?_) fun _ => rfl
  unfold heS at e
  rw [if_pos hff] at e
  split at e
  · rename_i y q1
    cases e
    refine ⟨S, _, s, q1, fun v H1 x1 r1 => ?_⟩
    have s1 := s.mono x1
    obtain ⟨dd, z1, z2⟩ := s1.fl f hff
    refine ⟨_, s1.se, rfl, rfl, dd, _, h.arg, z1, z2, by simp [List.lookup], ?_⟩
    have r1 : v = .str y := r1
    subst r1
    exact ⟨by show 2 ≤ sizeLine; rw [sizeLine_eq]; omega, fun p hp => q _ _ (fun b o z => ext_new hp b o (x1 b o z)) ⟨p, rfl, upd_same⟩⟩
  · cases e
end
end
end
end Jw

set_option maxHeartbeats 2000000
/-! The check of the word def's suite, and its soundness. -/
namespace Jw
open PySem PySem.Spec PyProof.Rows L2
noncomputable section
theorem noComp_ok {a : Expr} {t : Option Expr} {l : Nat} {env : Env} (h : noComp a = true) : swapsWith a t l env = pure false := by
  unfold swapsWith
  cases a <;> first | (cases h; done) | rfl
theorem comp_ok {a tg : Expr} {l : Nat} {env : Env} (h : (noComp a || notName tg) = true) : swapsWith a (some tg) l env = pure false := by
  rw [Bool.or_eq_true] at h
  rcases h with h | h
  · exact noComp_ok h
  · unfold swapsWith
    cases tg with
    | Name => cases h
    | _ => cases a <;> rfl
theorem fm_short {α β : Type} {f : α → Option β} : ∀ {l : List α}, (∃ x ∈ l, f x = none) → (l.filterMap f).length < l.length
  | [], ⟨x, hx, _⟩ => by cases hx
  | y :: l, ⟨x, hx, e⟩ => by
    have le := List.length_filterMap_le f l
    rcases List.mem_cons.mp hx with rfl | hx
    · rw [List.filterMap_cons_none e, List.length_cons]; omega
    · have ih := fm_short ⟨x, hx, e⟩
      cases ey : f y with
      | none => rw [List.filterMap_cons_none ey, List.length_cons]; omega
      | some z => rw [List.filterMap_cons_some ey, List.length_cons, List.length_cons]; omega
theorem noSwap_ok {tg a : Expr} {env : Env} (h : noSwap tg a = true) : swappedStores [tg] a env = pure none := by
  unfold swappedStores
  unfold noSwap at h
  cases tg with
  | Tuple ts k pos =>
    cases a with
    | Tuple vs k2 pos2 =>
      have h : ts.any notName = true := h
      obtain ⟨x, hx, e⟩ := List.any_eq_true.mp h
      have hl : ∀ (f : Expr → Option Str), f x = none → (ts.filterMap f).length ≠ ts.length := fun f e => Nat.ne_of_lt (fm_short ⟨x, hx, e⟩)
      dsimp only
      split
      · rfl
      · split
        · rfl
        · split
          · rfl
          · rename_i hh
            exfalso
            apply hh
            rw [Bool.or_eq_true]
            refine .inl (bne_iff_ne.mpr (hl _ ?_))
            cases x with
            | Name => cases e
            | _ => rfl
    | _ => rfl
  | List ts pos => cases h
  | _ => cases a <;> rfl
theorem noSwapC_ok {tg a : Expr} {env : Env} {Y : Sc} (hs : env.scope = Y.sc) (h : noSwapC Y tg a = true) : swappedStores [tg] a env = pure none := by
  unfold swappedStores
  unfold noSwapC at h
  cases tg with
  | Tuple ts k pos =>
    cases a with
    | Tuple vs k2 pos2 =>
      obtain ⟨x, hx, e⟩ := List.any_eq_true.mp h
      have hl : ∀ (f : Expr → Option Str), f x = none → (ts.filterMap f).length ≠ ts.length := fun f e => Nat.ne_of_lt (fm_short ⟨x, hx, e⟩)
      dsimp only
      split
      · rfl
      · split
        · rfl
        · split
          · rfl
          · rename_i hh
            exfalso
            apply hh
            rw [Bool.or_eq_true]
            refine .inl (bne_iff_ne.mpr (hl _ ?_))
            cases x with
            | Name s p =>
              have e : decide (Y.sc.names.lookup s = some .cell) = true := e
              have e := of_decide_eq_true e
              have ek : env.kindOf s = some .cell := by unfold Env.kindOf; rw [hs]; exact e
              show (if (env.kindOf s == some .local && _) = true then some s else none) = none
              rw [ek]; rfl
            | _ => cases e
    | _ => cases h
  | _ => cases h
/-! ### the check -/
section
variable (N : List Str) (sc : Scope) (en : Str)
def loN (n : Str) (i : Nat) : Bool := decide (N[i]? = some n) && decide (sc.names.lookup n = some .local) && okn n
def glN (x : Str) : Bool := decide (sc.names.lookup x = some .globalImplicit) && okn x
def kIsE (x : Str) : Expr → Bool
  | .Call (.Name s _) [.Name n _, .Name t _] [] _ => decide (s = "isinstance") && decide (n = en) && decide (t = x) && glN sc "isinstance" && glN sc x
  | _ => false
def kIsL : List Str → List Expr → Bool
  | [], [] => true
  | x :: l, e :: es => kIsE sc en x e && kIsL l es
  | _, _ => false
def kStL : List Str → List Expr → Bool
  | [], [] => true
  | x :: l, e :: es => (match e with
    | .Constant (.str t) _ _ => decide (t = x)
    | _ => false) && kStL l es
  | _, _ => false
def qVr (i : Nat) : Expr → Bool
  | .Name n _ => loN N sc n i
  | _ => false
def qSt (x : Str) : Expr → Bool
  | .Constant (.str t) _ _ => decide (t = x)
  | _ => false
def qLb (l : List Str) : Expr → Bool
  | .List es _ => kIsL sc en l es
  | _ => false
def qLs (l : List Str) : Expr → Bool
  | .List es _ => kStL l es
  | _ => false
def qPick (i j : Nat) : Expr → Bool
  | .Subscript (.Name ni _) (.Call (.Attribute (.Name nj _) m apos) [.Constant (.bool true) _ _] [] cpos) _ => decide (m = "index") && (apos.endLine == cpos.line) && loN N sc ni i && loN N sc nj j
  | _ => false
def qOne (j : Nat) : Expr → Bool
  | .Compare (.Call (.Attribute (.Name nj _) m apos) [.Constant (.bool true) _ _] [] cpos) [.Eq] [.Constant (.int 1) _ _] _ => decide (m = "count") && (apos.endLine == cpos.line) && loN N sc nj j
  | _ => false
def qCat (f g : Expr → Bool) : Expr → Bool
  | .BinOp e1 .Add e2 _ => f e1 && g e2
  | _ => false
def qAn (f g : Expr → Bool) : Expr → Bool
  | .BoolOp .And [e1, e2] _ => f e1 && g e2
  | _ => false
def qIte (k f g : Expr → Bool) : Expr → Bool
  | .IfExp t e1 e2 _ => k t && f e1 && g e2
  | _ => false
def qEqs (f : Expr → Bool) (x : Str) : Expr → Bool
  | .Compare e1 [.Eq] [.Constant (.str t) _ _] _ => decide (t = x) && f e1
  | _ => false
def qIns (f g : Expr → Bool) : Expr → Bool
  | .Compare e1 [.In] [e2] _ => f e1 && g e2
  | _ => false
def qPr (f : Expr → Bool) (x : Str) : Expr → Bool
  | .Tuple [e, .Attribute (.Name n _) f' _] _ _ => decide (n = en) && decide (f' = x) && f e
  | _ => false
def kHE : HE → Expr → Bool
  | .isE x => kIsE sc en x
  | .vr i => qVr N sc i
  | .st x => qSt x
  | .lb l => qLb sc en l
  | .ls l => qLs l
  | .cat a b => qCat (kHE a) (kHE b)
  | .pick i j => qPick N sc i j
  | .one j => qOne N sc j
  | .an a b => qAn (kHE a) (kHE b)
  | .ite c a b => qIte (kHE c) (kHE a) (kHE b)
  | .eqs a x => qEqs (kHE a) x
  | .ins a b => qIns (kHE a) (kHE b)
  | .pr a f => qPr en (kHE a) f
def qAsg (f : Expr → Bool) (i : Nat) : Stmt → Bool
  | .Assign [.Name n _] v _ => loN N sc n i && noComp v && f v
  | _ => false
def qApp (i : Nat) (x : Str) : Stmt → Bool
  | .Expr (.Call (.Attribute (.Name n _) m apos) [e] [] cpos) _ => decide (m = "append") && (apos.endLine == cpos.line) && loN N sc n i && kIsE sc en x e
  | _ => false
def qIff (k f : Expr → Bool) (i : Nat) : Stmt → Bool
  | .If t [.Assign [.Name n _] v _] [] _ => k t && loN N sc n i && noComp v && f v
  | _ => false
def kHX : HX → Stmt → Bool
  | .asg i e => qAsg N sc (kHE N sc en e) i
  | .app i x => qApp N sc en i x
  | .iff c i e => qIff N sc (kHE N sc en c) (kHE N sc en e) i
def kHXs : List HX → List Stmt → Bool
  | [], [] => true
  | x :: l, st :: sts => kHX N sc en x st && kHXs l sts
  | _, _ => false
end
/-! ### it is sound -/
/-- what the suite's context knows -/
structure SuF (X : Cx) (h : HD) (isa : Str → Option Bool) (fld : Option Str) (oe : Obj) (N : List Str) (sc : Scope) (en : Str) : Prop where
  T : ClsF X.K h.D fld
  hz : Zc (.ref h.D) h.d oe
  hf : ∃ vs, oe.data = .fields vs
  eN : X.N = N
  nd : N.Nodup
  esc : X.env.scope = sc
  he : loN N sc en h.ie = true
  mi : X.mg "isinstance" = none
  hF : ∀ x b, isa x = some b → IsaF X.K X.mg h.D x b
  hu : X.A.units + 64 < cLine
section
variable {X : Cx} {h : HD} {isa : Str → Option Bool} {fld : Option Str} {oe : Obj} {pn : List (Addr × Obj)} {N : List Str} {sc : Scope} {en : Str}
theorem okn2 {x : Str} (h : okn x = true) : (x == ("__debug__" : Str)) = false ∧ (x == ("__classdict__" : Str)) = false := by
  unfold okn at h
  rw [Bool.and_eq_true, Bool.not_eq_true', Bool.not_eq_true'] at h
  exact h
theorem loN_ok (F : SuF X h isa fld oe N sc en) {n : Str} {i : Nat} (q : loN N sc n i = true) : X.N[i]? = some n ∧ X.env.scope.names.lookup n = some .local ∧ (n == ("__debug__" : Str)) = false ∧ (n == ("__classdict__" : Str)) = false := by
  unfold loN at q
  simp only [Bool.and_eq_true, decide_eq_true_eq] at q
  obtain ⟨⟨q1, q2⟩, q3⟩ := q
  exact ⟨by rw [F.eN]; exact q1, by rw [F.esc]; exact q2, okn2 q3⟩
theorem glN_ok (F : SuF X h isa fld oe N sc en) {x : Str} (q : glN sc x = true) : Gl X x ∧ (x == ("__debug__" : Str)) = false := by
  unfold glN at q
  simp only [Bool.and_eq_true, decide_eq_true_eq] at q
  exact ⟨by show X.env.scope.names.lookup x = _; rw [F.esc]; exact q.1, (okn2 q.2).1⟩
abbrev Zs (X : Cx) (h : HD) (oe : Obj) (pn : List (Addr × Obj)) : Cx := X.suite h.a ((h.a, oe) :: pn)
theorem kIsE_nice {x : Str} {e : Expr} (q : kIsE sc en x e = true) : Nice e ∧ ∀ env w, isTrue e env w = (do let v ← w; standAt e.pos; holding [v] (truthy v)) := by
  unfold kIsE at q
  split at q
  · exact ⟨⟨fun _ _ => rfl, fun _ _ => rfl, fun _ _ => rfl, fun op => by cases op <;> rfl, fun _ _ _ => rfl, fun _ _ _ _ => rfl⟩, fun _ _ => rfl⟩
  · cases q
theorem kIsE_ok (F : SuF X h isa fld oe N sc en) {x : Str} {e : Expr} {b : Bool} (q : kIsE sc en x e = true) (hb : isa x = some b) : PE (Zs X h oe pn) e (fun σ H Q => ∃ S, HSim h fld S σ H ∧ Q (.bl b) H) := by
  unfold kIsE at q
  split at q
  · simp only [Bool.and_eq_true, decide_eq_true_eq] at q
    obtain ⟨⟨⟨⟨rfl, rfl⟩, rfl⟩, q4⟩, q5⟩ := q
    obtain ⟨g1, g2⟩ := glN_ok F q4
    obtain ⟨g3, g4⟩ := glN_ok F q5
    obtain ⟨l1, l2, l3, l4⟩ := loN_ok F F.he
    exact pe_isE F.T F.hz F.hf rfl l1 (.inl l2) l3 l4 g1 F.mi g3 g4 (F.hF _ _ hb)
  · cases q
theorem kIsL_ok (F : SuF X h isa fld oe N sc en) : ∀ {l : List Str} {es : List Expr}, kIsL sc en l es = true → PA (Zs X h oe pn) es (fun σ H Q => ∃ S bs, HSim h fld S σ H ∧ isaL isa l = some bs ∧ ∀ H', Ex' H H' → Q (bs.map .bl) H')
  | [], [], _ => pa_nil.mono fun σ H Q ⟨S, bs, s, e, q⟩ => by
    cases e
    exact q H fun _ _ z => z
  | x :: l, e :: es, hh => by
    unfold kIsL at hh
    rw [Bool.and_eq_true] at hh
    cases hx : isa x with
    | none => exact ⟨fun pos pins s σ H Q I ⟨S, bs, _, e, _⟩ => by
        have e : (isa x).bind _ = some bs := e
        rw [hx] at e; cases e⟩
    | some b =>
      refine (pa_cons (kIsE_ok F hh.1 hx) (kIsL_ok F hh.2) ((kIsE_nice hh.1).1.star _ _)).mono fun σ H Q ⟨S, bs, s, e, q⟩ => ?_
      have e : (isa x).bind (fun b => (isaL isa l).map fun bs => b :: bs) = some bs := e
      rw [hx] at e
      cases e2 : isaL isa l with
      | none => rw [e2] at e; cases e
      | some cs =>
        rw [e2] at e
        cases e
        exact ⟨S, s, S, cs, s, rfl, fun H' ex => q H' ex⟩
  | [], _ :: _, hh => by cases hh
  | _ :: _, [], hh => by cases hh
theorem isaL_len : ∀ {l : List Str} {bs : List Bool}, isaL isa l = some bs → bs.length = l.length
  | [], bs, e => by cases e; rfl
  | x :: l, bs, e => by
    have e : (isa x).bind (fun b => (isaL isa l).map fun bs => b :: bs) = some bs := e
    cases hx : isa x with
    | none => rw [hx] at e; cases e
    | some b =>
      rw [hx] at e
      cases e2 : isaL isa l with
      | none => rw [e2] at e; cases e
      | some cs =>
        rw [e2] at e
        cases e
        rw [List.length_cons, List.length_cons, isaL_len e2]
theorem kStL_ok {Z : Cx} : ∀ {l : List Str} {es : List Expr}, kStL l es = true → PA Z es (fun σ H Q => Q (l.map .str) H)
  | [], [], _ => pa_nil
  | x :: l, e :: es, hh => by
    unfold kStL at hh
    rw [Bool.and_eq_true] at hh
    obtain ⟨h1, h2⟩ := hh
    split at h1
    · have e := of_decide_eq_true h1
      subst e
      exact pa_cons pe_str (kStL_ok h2)
    · cases h1
  | [], _ :: _, hh => by cases hh
  | _ :: _, [], hh => by cases hh
theorem kHE_ok (F : SuF X h isa fld oe N sc en) : ∀ {x : HE} {e : Expr}, kHE N sc en x e = true → SndH h isa fld (Zs X h oe pn) e x := by
  intro x
  induction x with
  | isE x =>
    intro e q
    have q : kIsE sc en x e = true := q
    obtain ⟨n1, n2⟩ := kIsE_nice q
    cases hx : isa x with
    | none => exact ⟨n1, ⟨fun pins s σ H Q I ⟨S, hv, _, z, _⟩ => by
        have z : (isa x).map HV.bl = some hv := z
        rw [hx] at z; cases z⟩, ⟨fun pins s σ H Q I ⟨S, hv, _, z, _⟩ => by
        have z : (isa x).map HV.bl = some (HV.bl hv) := z
        rw [hx] at z; cases z⟩⟩
    | some b => exact .val n1 ((kIsE_ok F q hx).mono fun σ H Q ⟨S, hv, s, z, q⟩ => by
        have z : (isa x).map HV.bl = some hv := z
        rw [hx] at z
        cases z
        exact ⟨S, s, q _ H (fun _ _ z => z) rfl⟩) (n2 _)
  | vr i =>
    intro e q
    have q : qVr N sc i e = true := q
    unfold qVr at q
    split at q
    · obtain ⟨l1, l2, l3, l4⟩ := loN_ok F q
      exact sndh_vr (Z := Zs X h oe pn) l1 (.inl l2) l3 l4
    · cases q
  | st x =>
    intro e q
    have q : qSt x e = true := q
    unfold qSt at q
    split at q
    · have e := of_decide_eq_true q
      subst e
      exact sndh_st
    · cases q
  | lb l =>
    intro e q
    have q : qLb sc en l e = true := q
    unfold qLb at q
    split at q
    · exact sndh_lb (kIsL_ok F q) fun bs => isaL_len
    · cases q
  | ls l =>
    intro e q
    have q : qLs l e = true := q
    unfold qLs at q
    split at q
    · exact sndh_ls (kStL_ok q)
    · cases q
  | cat a b iha ihb =>
    intro e q
    have q : qCat (kHE N sc en a) (kHE N sc en b) e = true := q
    unfold qCat at q
    split at q
    · rw [Bool.and_eq_true] at q
      exact sndh_cat (iha q.1) (ihb q.2)
    · cases q
  | pick i j =>
    intro e q
    have q : qPick N sc i j e = true := q
    unfold qPick at q
    split at q
    · simp only [Bool.and_eq_true, decide_eq_true_eq] at q
      obtain ⟨⟨⟨rfl, h2⟩, h3⟩, h4⟩ := q
      obtain ⟨l1, l2, l3, l4⟩ := loN_ok F h3
      obtain ⟨k1, k2, k3, k4⟩ := loN_ok F h4
      exact sndh_pick (Z := Zs X h oe pn) l1 (.inl l2) l3 l4 k1 (.inl k2) k3 k4 h2
    · cases q
  | one j =>
    intro e q
    have q : qOne N sc j e = true := q
    unfold qOne at q
    split at q
    · simp only [Bool.and_eq_true, decide_eq_true_eq] at q
      obtain ⟨⟨rfl, h2⟩, h4⟩ := q
      obtain ⟨k1, k2, k3, k4⟩ := loN_ok F h4
      exact sndh_one (Z := Zs X h oe pn) F.hu k1 (.inl k2) k3 k4 h2
    · cases q
  | an a b iha ihb =>
    intro e q
    have q : qAn (kHE N sc en a) (kHE N sc en b) e = true := q
    unfold qAn at q
    split at q
    · rw [Bool.and_eq_true] at q
      exact sndh_an (iha q.1) (ihb q.2)
    · cases q
  | ite c a b ihc iha ihb =>
    intro e q
    have q : qIte (kHE N sc en c) (kHE N sc en a) (kHE N sc en b) e = true := q
    unfold qIte at q
    split at q
    · rw [Bool.and_eq_true, Bool.and_eq_true] at q
      exact sndh_ite (ihc q.1.1) (iha q.1.2) (ihb q.2)
    · cases q
  | eqs a x iha =>
    intro e q
    have q : qEqs (kHE N sc en a) x e = true := q
    unfold qEqs at q
    split at q
    · rw [Bool.and_eq_true] at q
      have e := of_decide_eq_true q.1
      subst e
      exact sndh_eqs (show X.A.units < cLine by have := F.hu; omega) (iha q.2)
    · cases q
  | ins a b iha ihb =>
    intro e q
    have q : qIns (kHE N sc en a) (kHE N sc en b) e = true := q
    unfold qIns at q
    split at q
    · rw [Bool.and_eq_true] at q
      exact sndh_ins (iha q.1) (ihb q.2)
    · cases q
  | pr a f iha =>
    intro e q
    have q : qPr en (kHE N sc en a) f e = true := q
    unfold qPr at q
    split at q
    · simp only [Bool.and_eq_true, decide_eq_true_eq] at q
      obtain ⟨⟨rfl, rfl⟩, h3⟩ := q
      obtain ⟨l1, l2, l3, l4⟩ := loN_ok F F.he
      rename_i f' _ _ _
      by_cases hff : fld = some f'
      · exact pe_prH F.T F.hz F.hf rfl l1 (.inl l2) l3 l4 hff (iha h3)
      · refine ⟨⟨fun _ _ => rfl, fun _ _ => rfl, fun _ _ => rfl, fun op => by cases op <;> rfl, fun _ _ _ => rfl, fun _ _ _ _ => rfl⟩, ⟨fun pins s σ H Q I ⟨S, hv, _, z, _⟩ => ?_⟩, ⟨fun pins s σ H Q I ⟨S, hv, _, z, _⟩ => ?_⟩⟩
        · unfold heS at z
          rw [if_neg hff] at z
          cases z
        · unfold heS at z
          rw [if_neg hff] at z
          cases z
    · cases q
/-! ### statements -/
theorem asg_step (F : SuF X h isa fld oe N sc en) {i : Nat} {e : HE} {n : Str} {p pos : Pos} {v : Expr} (q1 : loN N sc n i = true) (q2 : noComp v = true) (q3 : kHE N sc en e v = true) (q4 : noSwap (.Name n p) v = true) :
    PS (Zs X h oe pn) (.Assign [.Name n p] v pos) (fun D σ H => ∃ S hv, HSim h fld S σ H ∧ i ≠ h.ie ∧ heS isa fld S e = some hv ∧ ∀ σ' H', HSim h fld (S.set i (some hv)) σ' H' → D.nx σ' H') := by
  obtain ⟨l1, l2, l3, l4⟩ := loN_ok F q1
  refine ⟨fun pins s σ H D I ⟨S, hv, s1, ne, z, q⟩ => (ps_asg (X := Zs X h oe pn) (kHE_ok F q3).pe (pg_name (X := Zs X h oe pn) (show X.N.Nodup by rw [F.eN]; exact F.nd) l1 (.inl l2) (.inr l2)) (noComp_ok (t := some (.Name n p)) (l := pos.line) q2) (noSwap_ok q4)).run pins s σ H D I ⟨S, hv, s1, z, fun u H' ex r => ?_⟩⟩
  refine q _ _ ((s1.mono ex).set ?_ ne r)
  rw [I.len]
  exact (List.getElem?_eq_some_iff.mp l1).1
theorem noSwapN {n : Str} {p : Pos} {v : Expr} : noSwap (.Name n p) v = true := rfl
theorem alone_ok {S : HS} {i j : Nat} {hv : HV} (ha : aloneAt S i = true) (e : hGet S j = some hv) (ne : j ≠ i) : (∃ b, hv = .bl b) ∨ ∃ x, hv = .st x := by
  have hj : j < S.length := by
    unfold hGet at e
    rcases Nat.lt_or_ge j S.length with z | z
    · exact z
    · rw [List.getElem?_eq_none z] at e; cases e
  have := List.all_eq_true.mp ha j (List.mem_range.mpr hj)
  rw [Bool.or_eq_true] at this
  rcases this with z | z
  · exact absurd (of_decide_eq_true z) ne
  · rw [e] at z
    cases hv with
    | bl b => exact .inl ⟨b, rfl⟩
    | st x => exact .inr ⟨x, rfl⟩
    | _ => cases z
def tHX1 (h : HD) (isa : Str → Option Bool) (fld : Option Str) (x : HX) : TS := fun D σ H => ∃ S S', HSim h fld S σ H ∧ hx1 isa fld h.ie S x = some S' ∧ ∀ σ' H', HSim h fld S' σ' H' → D.nx σ' H'
def tHXs (h : HD) (isa : Str → Option Bool) (fld : Option Str) (l : List HX) : TS := fun D σ H => ∃ S S', HSim h fld S σ H ∧ hxS isa fld h.ie l S = some S' ∧ ∀ σ' H', HSim h fld S' σ' H' → D.nx σ' H'
theorem asg_inv {S S' : HS} {i : Nat} {e : HE} {ie : Nat} (z : (if i = ie then none else (heS isa fld S e).map fun v => S.set i (some v)) = some S') : ∃ hv, i ≠ ie ∧ heS isa fld S e = some hv ∧ S' = S.set i (some hv) := by
  by_cases ne : i = ie
  · rw [if_pos ne] at z; cases z
  · rw [if_neg ne] at z
    cases e1 : heS isa fld S e with
    | none => rw [e1] at z; cases z
    | some hv => rw [e1] at z; cases z; exact ⟨hv, ne, rfl, rfl⟩
theorem kHX_ok (F : SuF X h isa fld oe N sc en) {x : HX} {st : Stmt} (q : kHX N sc en x st = true) : PS (Zs X h oe pn) st (tHX1 h isa fld x) := by
  cases x with
  | asg i e =>
    have q : qAsg N sc (kHE N sc en e) i st = true := q
    unfold qAsg at q
    split at q
    · simp only [Bool.and_eq_true] at q
      refine (asg_step F q.1.1 q.1.2 q.2 rfl).mono fun D σ H ⟨S, S', s, z, q⟩ => ?_
      obtain ⟨hv, ne, z2, rfl⟩ := asg_inv z
      exact ⟨S, hv, s, ne, z2, q⟩
    · cases q
  | iff c i e =>
    have q : qIff N sc (kHE N sc en c) (kHE N sc en e) i st = true := q
    unfold qIff at q
    split at q
    · simp only [Bool.and_eq_true] at q
      refine (ps_if (kHE_ok (pn := pn) F q.1.1.1).pt (pss_one (asg_step F q.1.1.2 q.1.2 q.2 rfl)) pss_nil).mono fun D σ H ⟨S, S', s, z, q⟩ => ?_
      have z : (match heS isa fld S c with
        | some (.bl true) => if i = h.ie then none else (heS isa fld S e).map fun v => S.set i (some v)
        | some (.bl false) => some S
        | _ => none) = some S' := z
      split at z
      · rename_i e1
        obtain ⟨hv, ne, z2, rfl⟩ := asg_inv z
        refine ⟨S, true, s, e1, fun H1 x1 => ?_⟩
        try dsimp only
        rw [if_pos rfl]
        exact ⟨S, hv, s.mono x1, ne, z2, q⟩
      · rename_i e1
        cases z
        refine ⟨S, false, s, e1, fun H1 x1 => ?_⟩
        try dsimp only
        rw [if_neg (by decide)]
        exact q σ H1 (s.mono x1)
      · cases z
    · cases q
  | app i x =>
    have q : qApp N sc en i x st = true := q
    unfold qApp at q
    split at q
    · simp only [Bool.and_eq_true, decide_eq_true_eq] at q
      obtain ⟨⟨⟨rfl, h2⟩, h3⟩, h4⟩ := q
      obtain ⟨l1, l2, l3, l4⟩ := loN_ok F h3
      cases hx : isa x with
      | none => exact ⟨fun pins s σ H D I ⟨S, S', s1, z, _⟩ => by
          have z : (match hGet S i, isa x with
            | some (.lb l), some b => if aloneAt S i && decide (l.length ≤ 20) then some (S.set i (some (HV.lb (l ++ [b])))) else none
            | _, _ => none) = some S' := z
          rw [hx] at z
          split at z
          · rename_i e; cases e
          · cases z⟩
      | some b =>
        refine (ps_expr (pe_bm (X := Zs X h oe pn) PySem.F.plainAttrs_list PySem.F.slot_list_append PySem.F.type_list_append mt_append (pe_var (X := Zs X h oe pn) l1 (.inl l2) l3 l4) (pa_cons (kIsE_ok F h4 hx) pa_nil ((kIsE_nice h4).1.star _ _)) rfl (by rw [(kIsE_nice h4).1.star]; rfl) h2 ((kIsE_nice h4).1.star _ _) rfl) rfl).mono fun D σ H ⟨S, S', s, z, q⟩ => ?_
        have z : (match hGet S i, isa x with
            | some (.lb l), some b => if aloneAt S i && decide (l.length ≤ 20) then some (S.set i (some (HV.lb (l ++ [b])))) else none
            | _, _ => none) = some S' := z
        rw [hx] at z
        split at z
        · rename_i l b' e1 e2
          cases e2
          by_cases hb : (aloneAt S i && decide (l.length ≤ 20)) = true
          · rw [if_pos hb] at z
            cases z
            rw [Bool.and_eq_true] at hb
            obtain ⟨v, z1, p, rfl, z2, z3⟩ := s.sl i _ e1
            refine ⟨_, z1, listV z2, S, s, p, l.map .bl, .bl b, rfl, rfl, z2, by rw [List.length_map, sizeLine_eq]; have := of_decide_eq_true hb.2; omega, q σ _ ⟨fun j hv g => ?_, s.se, fun c o e => ?_, fun f ef => ?_, fun dd ed => ?_⟩⟩
            · rcases hGet_set g with ⟨rfl, rfl⟩ | ⟨ne, g⟩
              · exact ⟨_, z1, p, rfl, by rw [upd_same, List.map_append]; rfl, z3⟩
              · obtain ⟨v, y1, y2⟩ := s.sl j _ g
                rcases alone_ok hb.1 g ne with ⟨c, rfl⟩ | ⟨c, rfl⟩ <;> exact ⟨v, y1, y2⟩
            · rw [upd_ne (fun y => by rw [y, z3] at e; cases e)]; exact s.ext c o e
            · obtain ⟨dd, y1, y2⟩ := s.fl f ef
              exact ⟨dd, y1, by rw [upd_ne (fun y => by rw [y, z2] at y2; cases y2)]; exact y2⟩
            · obtain ⟨fs, y2⟩ := s.dd dd ed
              exact ⟨fs, by rw [upd_ne (fun y => by rw [y, z2] at y2; cases y2)]; exact y2⟩
          · rw [if_neg hb] at z; cases z
        · cases z
    · cases q
theorem kHXs_ok (F : SuF X h isa fld oe N sc en) : ∀ {l : List HX} {sts : List Stmt}, kHXs N sc en l sts = true → PSs (Zs X h oe pn) sts (tHXs h isa fld l)
  | [], [], _ => pss_nil.mono fun D σ H ⟨S, S', s, z, q⟩ => by
    cases z
    exact q σ H s
  | x :: l, st :: sts, hh => by
    unfold kHXs at hh
    rw [Bool.and_eq_true] at hh
    refine (pss_cons (kHX_ok F hh.1) (kHXs_ok F hh.2)).mono fun D σ H ⟨S, S', s, z, q⟩ => ?_
    have z : (hx1 isa fld h.ie S x).bind (hxS isa fld h.ie l) = some S' := z
    cases e : hx1 isa fld h.ie S x with
    | none => rw [e] at z; cases z
    | some S1 =>
      rw [e] at z
      exact ⟨S, S1, s, e, fun σ1 H1 s1 => ⟨S1, S', s1, z, q⟩⟩
  | [], _ :: _, hh => by cases hh
  | _ :: _, [], hh => by cases hh
end
end
end Jw

set_option maxHeartbeats 2000000
/-! A lambda without parameters, or with one that has a default, handed to a def that calls it. -/
namespace Jw
open PySem PySem.Calls PySem.Spec PyProof.Rows L2 LamX
noncomputable section
/-- its own names pa, captured names, globals -/
structure LamSD (sc scope : Scope) (pa : List Str) : Prop where
  kind : scope.kind = .function
  co : scope.isCoroutine = false
  gen : scope.isGenerator = false
  own : ∀ y ∈ scope.names, y.2 ≠ .cell ∧ (y.2 = .local → y.1 ∈ pa)
  free : ∀ y ∈ scope.names, y.2 = .free → sc.names.lookup y.1 = some .cell ∨ sc.names.lookup y.1 = some .free
  loc : ∀ a ∈ pa, scope.names.lookup a = some .local
theorem lamD_by {sc scope : Scope} {pa : List Str} (h : lamDB sc scope pa = true) : LamSD sc scope pa := by
  unfold lamDB at h
  simp only [Bool.and_eq_true, Bool.or_eq_true, Bool.not_eq_true', decide_eq_true_eq, decide_eq_false_iff_not, List.all_eq_true] at h
  obtain ⟨⟨⟨⟨h1, h2⟩, h3⟩, h4⟩, h5⟩ := h
  refine ⟨h1, h2, h3, fun y hy => ⟨(h4 y hy).1.1, fun e => (h4 y hy).1.2.elim (fun z => absurd e z) id⟩, fun y hy e => ?_, h5⟩
  rcases (h4 y hy).2 with (z | z) | z
  · exact absurd e z
  · exact .inl z
  · exact .inr z
theorem LamSD.has {X : Cx} {scope : Scope} {pa : List Str} (L : LamSD X.env.scope scope pa) (ok : X.Ok) : ∀ y ∈ scope.names, y.2 = .free → ∃ c, X.env.cells.lookup y.1 = some c := fun y hy e =>
  (L.free y hy e).elim (fun k => ok.has _ (.inl k)) fun k => ok.has _ (.inr k)
section
variable {X : Cx} {pins : List (Addr × Obj)} {σ : L2.St} {H HZ : Hp} {s s1 : Shared}
/-- the lambda's own state at its entry, called from a def that got it -/
theorem lamD_start {A : Around} {outer : List Env} {E : XK} {scope : Scope} {f c' : Addr} {h₁ : Heap} {tk : Nat} {pa : List Str} {own : List Nat} {binds : List (Str × Value)} (I : Inv X pins σ H s) (L : LamSD X.env.scope scope pa) (hN : X.N.Nodup) (hown : ∀ a ∈ pa, ∃ i ∈ own, X.N[i]? = some a) (e0 : Env0 X.prog X.w X.K X.mg X.base A outer s1 HZ) (hd : A.handled = none)
    (un : Un (frs X.stack) [] H HZ s.heap s1.heap) (hns : h₁.Ns s1.heap.objs.size fun y => binds.reverse.lookup y) (kp : ∀ b o, s1.heap.get? b = some o → h₁.get? b = some o) :
    Inv (lamCx X A outer s1 HZ E scope f c') [] (wipe σ own) HZ { s1 with heap := h₁, toks := tk } := by
  have hfree := L.has I.ok
  have cm : ∀ {y c}, (cloFrom X.env.cells scope.names []).lookup y = some c → X.env.cells.lookup y = some c := fun {y c} e => by
    rcases cloFrom_mem (PySem.mem_of_lookup e) with hm | ⟨h1, h2⟩
    · cases hm
    · obtain ⟨c1, hc⟩ := hfree _ h1 rfl
      have hc : X.env.cells.lookup y = some c1 := hc
      have e2 : c = c1 := by
        rw [h2, hc] <;> rfl
      rw [e2]
      exact hc
  have look : ∀ {y}, scope.names.lookup y = some .free → ∃ c, (cloFrom X.env.cells scope.names []).lookup y = some c := fun {y} hl => by
    have hy : (y, NameKind.free) ∈ scope.names := PySem.mem_of_lookup hl
    exact mem_lookup (cloFrom_has (cells := X.env.cells) (acc := []) hy)
  have cellK : ∀ {c : Addr} {v : Option Value}, H c = none → s.heap.IsCell c v → h₁.IsCell c v := fun {c v} n ⟨o, ho, hd⟩ => by
    obtain ⟨sl, q⟩ := un.any ho n (by simp)
    exact ⟨_, kp _ _ q, hd⟩
  have noA : ∀ b : Addr, b ∉ (lamCx X A outer s1 HZ E scope f c').ex := fun b z => absurd (show b ∈ ([] : List Addr) from z) (by simp)
  refine ⟨⟨e0.mod, L.kind, rfl, rfl, Nat.le_refl _, fun y z c e1 e2 => I.ok.inj y z c (cm e1) (cm e2), fun y hy => ?_, fun y c z _ => ?_, fun _ => hd, Around.frames_deeper e0.frames, .inr ⟨rfl, rfl⟩, fun b z => absurd z (noA b), e0.bs, e0.bsz, fun b _ _ => noA b,
      fun b z => absurd z (noA b), e0.funs, e0.frf⟩,
    rfl, e0.bare, Un.kept kp, ⟨_, hns, fun i y v e1 e2 e3 => ?_⟩, fun y c e => ?_, e0.hok.fresh (Nat.le_refl _), fun y c e => ?_, fun q hq => absurd (show q ∈ ([] : List (Addr × Obj)) ++ [] from hq) (by simp), e0.hok.kept kp, by rw [wipe_length]; exact I.len⟩
  · have hy : scope.names.lookup y = some .cell ∨ scope.names.lookup y = some .free := hy
    rcases hy with hy | hy
    · exact absurd rfl (L.own _ (PySem.mem_of_lookup hy)).1
    · exact look hy
  · have z : false = true := z
    cases z
  · obtain ⟨e2, hni⟩ := wipe_some e2
    have e3 : Vis scope y := e3
    have e1 : X.N[i]? = some y := e1
    rcases e3 with k | k | k
    · have ey := (L.own _ (PySem.mem_of_lookup k)).2 rfl
      obtain ⟨j, hj, hy⟩ := hown _ ey
      have : i = j := nodup_ix hN e1 hy
      exact absurd (this ▸ hj) hni
    · exact absurd rfl (L.own _ (PySem.mem_of_lookup k)).1
    · obtain ⟨m, hn, hl⟩ := I.loc
      have hvis : Vis X.env.scope y := (L.free _ (PySem.mem_of_lookup k) rfl).elim (fun k => .inr (.inl k)) (fun k => .inr (.inr k))
      obtain ⟨w', r, q⟩ := hl i y v e1 e2 hvis
      obtain ⟨c2, h2⟩ := look k
      refine ⟨w', r, .inr ⟨.inr k, c2, h2, ?_⟩⟩
      have c1 := cm h2
      rcases q with ⟨k', _⟩ | ⟨_, c3, e', z⟩
      · have k' : X.env.scope.names.lookup y = some .local := k'
        rcases L.free _ (PySem.mem_of_lookup k) rfl with k2 | k2 <;> rw [show X.env.scope.names.lookup y = _ from k2] at k' <;> cases k'
      · rw [c1] at e'
        cases e'
        exact cellK (I.freeC y _ c1) z
  · obtain ⟨w', z⟩ := I.cell y c (cm e)
    exact ⟨w', cellK (I.freeC y c (cm e)) z⟩
  · obtain ⟨v, o, ho, hd⟩ := I.cell y c (cm e)
    exact un.free c o ho (I.freeC y c (cm e)) (by simp)
/-- the lambda's object -/
abbrev lamO (X : Cx) (params : Arguments) (body : Expr) (scope : Scope) (dV doc pm : Value) (c' : Addr) (ctv : Value) : Obj := PySem.W.kdv_obj "<lambda>" (X.env.qual ++ "<lambda>") params (.expr body) scope (cloFrom X.env.cells scope.names []) dV doc pm c' ctv
abbrev lamF (X : Cx) (params : Arguments) (body : Expr) (scope : Scope) (dV doc pm : Value) (c' : Addr) (ctv : Value) : FuncData := PySem.W.kdv_fn "<lambda>" (X.env.qual ++ "<lambda>") params (.expr body) scope (cloFrom X.env.cells scope.names []) dV doc pm (.ref c') ctv
theorem lam_tail {T : List (Addr × Str)} {c P : Addr} {params : Arguments} {body : Expr} {scope : Scope} {pos : Pos} {fl : Nat} {dV : Value} {E : Value → Shared → Prop} {Q : Value → Shared → Prop} (I : Inv X pins σ H s) (TB : TabB X.base X.mg c P) (hcode : X.env.code = .ref c)
    (hm : (P, X.env.qual ++ "<lambda>") ∈ T) (hu : ∀ p ∈ T, p.1 = P → p.2 = X.env.qual ++ "<lambda>") (hT : Tabs T H) (hfree : ∀ y ∈ scope.names, y.2 = .free → ∃ c, X.env.cells.lookup y.1 = some c)
    (h : ∀ (f c' : Addr) (pm ctv doc : Value) (H1 : Hp) (s' : Shared), Inv X pins σ H1 s' → (∀ b o, s.heap.get? b = some o → H b = none → s'.heap.get? b = some o ∧ H1 b = none) → ExtN H H1 → Gt H H1 → Tabs T H1 → CodeAt H1 P pos c' → s.heap.objs.size ≤ f →
      s'.heap.get? f = some (lamO X params body scope dV doc pm c' ctv) → H1 f = none → Q (.ref f) s') :
    wpAny (model X.prog X.w) X.A (makeTail "<lambda>" (X.env.qual ++ "<lambda>") params (.expr body) scope X.env dV .none none pos fl) Q E s := by
  have tab := hT _ hm
  obtain ⟨ps, hP, ht, ha⟩ := tab
  have bP : s.heap.BuiltinsAt X.mg P := TB.bm.keeps I.bk
  have hP' : s.heap.get? P = some { cls := .none, data := .fields ps } := I.hok P _ hP
  cases hc : codeAmong pos ps.toList with
  | some cv =>
    obtain ⟨c', rfl, hco⟩ := ha pos cv hc
    refine PySem.W.kdv_makeTailHit (mg := X.mg) (c := c) (P := P) (ps := ps) (closure_ok hfree) I.ok.glob (I.mod.glob.keeps I.bk) hcode (TB.code.keeps I.bk) hP' ht hc bP fun ctv doc g tk kp sz => ?_
    exact h g.objs.size c' _ ctv doc H _ (I.kept fun b o e => Heap.get?_push_of_some _ (kp b o e)) (fun b o e n => ⟨Heap.get?_push_of_some _ (kp b o e), n⟩) (ExtN.refl H) (fun b qs e => ⟨#[], by rw [e, Array.append_empty]⟩) hT ⟨ps, hP, hc⟩ sz (Heap.get?_push_size _ rfl) (I.hok.fresh sz)
  | none =>
    refine PySem.W.kdv_makeTail (mg := X.mg) (c := c) (P := P) (ps := ps) (closure_ok hfree) I.ok.glob (I.mod.glob.keeps I.bk) hcode (TB.code.keeps I.bk) hP' ht hc TB.gP bP fun c' ctv doc g tk kp lo hi rec tb => ?_
    obtain ⟨c2, oc, us, t, ec, hoc, hd, hv⟩ := rec
    cases ec
    have nC : H c' = none := I.hok.fresh lo
    have sz : s.heap.objs.size ≤ g.objs.size := Nat.le_trans lo (Nat.le_of_lt hi)
    have nPc : P ≠ c' := ne_of_none hP nC
    have grown : ∀ b o, H b = some o → (∀ qs, o ≠ .tbl qs) → upd (upd H P (.tbl (ps ++ #[rawInt pos.line, rawInt pos.col, .ref c']))) c' (CodeO c' (X.env.qual ++ "<lambda>")) b = some o := fun b o e n => by
      rw [upd_ne (ne_of_none e nC), upd_ne (fun z => n ps (by rw [z, hP] at e; exact (Option.some.inj e).symm))]
      exact e
    have new : upd (upd H P (.tbl (ps ++ #[rawInt pos.line, rawInt pos.col, .ref c']))) c' (CodeO c' (X.env.qual ++ "<lambda>")) P = some (.tbl (ps ++ #[rawInt pos.line, rawInt pos.col, .ref c'])) := by rw [upd_ne nPc, upd_same]
    have el : (ps ++ #[rawInt pos.line, rawInt pos.col, .ref c']).toList = ps.toList ++ [rawInt pos.line, rawInt pos.col, .ref c'] := by simp
    have J := inv_table (t' := tk) (more := #[rawInt pos.line, rawInt pos.col, .ref c']) (h' := g.push (lamO X params body scope dV doc ((X.mg "__name__").getD .none) c' ctv)) I hP
      (fun b o hb e => Heap.get?_push_of_some _ (kp b o hb e)) (Heap.get?_push_of_some _ tb) lo ⟨oc, us, t, Heap.get?_push_of_some _ hoc, hd, hv⟩
    have gt : Gt H (upd (upd H P (.tbl (ps ++ #[rawInt pos.line, rawInt pos.col, .ref c']))) c' (CodeO c' (X.env.qual ++ "<lambda>"))) := fun b qs e => by
      by_cases hb : b = P
      · rw [hb] at e ⊢
        rw [hP] at e
        cases e
        exact ⟨_, new⟩
      · exact ⟨#[], by rw [upd_ne (ne_of_none e nC), upd_ne hb, e, Array.append_empty]⟩
    refine h g.objs.size c' _ ctv doc _ _ J (fun b o e n => ?_) grown gt (fun p hp => ?_) ⟨_, new, by rw [el]; exact codeAmong_snoc _ ht hc⟩ sz (Heap.get?_push_size _ rfl) ?_
    · have nb : b ≠ P := fun z => by rw [z, hP] at n; cases n
      have nc : b ≠ c' := fun z => by
        rw [z] at e
        exact Nat.lt_irrefl _ (Nat.lt_of_lt_of_le (Heap.lt_size e) lo)
      exact ⟨Heap.get?_push_of_some _ (kp b o nb e), by rw [upd_ne nc, upd_ne nb]; exact n⟩
    · by_cases hb : p.1 = P
      · rw [hu p hp hb, hb]
        refine ⟨_, new, by rw [el]; exact PySem.TriplesOk_snoc _ _ _ _ ht, fun p2 cv q => ?_⟩
        rw [el] at q
        rcases among_app _ ht q with z | z
        · obtain ⟨c0, z1, z2⟩ := ha p2 cv z
          exact ⟨c0, z1, grown _ _ z2 codeO_ne⟩
        · exact ⟨c', z, upd_same⟩
      · obtain ⟨qs, a1, a2, a3⟩ := hT p hp
        refine ⟨qs, by rw [upd_ne (ne_of_none a1 nC), upd_ne hb]; exact a1, a2, fun p2 cv q => ?_⟩
        obtain ⟨c0, z1, z2⟩ := a3 p2 cv q
        exact ⟨c0, z1, grown _ _ z2 codeO_ne⟩
    · rw [upd_ne (Nat.ne_of_gt hi), upd_ne (Nat.ne_of_gt (Nat.lt_of_lt_of_le (Heap.lt_size hP') sz))]
      exact I.hok.fresh sz
/-- what a lambda, made, leaves -/
def LamMade (X : Cx) (σ : L2.St) (pins : List (Addr × Obj)) (T : List (Addr × Str)) (P : Addr) (pos : Pos) (params : Arguments) (body : Expr) (scope : Scope) (pa : List Str) (H : Hp) (v : Value) (s' : Shared) : Prop :=
  ∃ (f c' : Addr) (pm ctv doc dV : Value) (H1 : Hp) (binds : List (Str × Value)), v = .ref f ∧ Inv X pins σ H1 s' ∧ ExtN H H1 ∧ Gt H H1 ∧ Tabs T H1 ∧ H1 c' = some (CodeO c' (X.env.qual ++ "<lambda>")) ∧
    s'.heap.get? f = some (lamO X params body scope dV doc pm c' ctv) ∧ H1 f = none ∧ f ∉ frs X.stack ∧ (∀ y ∈ binds, y.1 ∈ pa) ∧
    ∀ s1 : Shared, (∀ b o, s'.heap.get? b = some o → H1 b = none → b ∉ frs X.stack → s1.heap.get? b = some o) → BindsTo s1 (lamF X params body scope dV doc pm c' ctv) ⟨[], []⟩ binds
theorem nofr_of (I : Inv X pins σ H s) : ∀ f, s.heap.objs.size ≤ f → f ∉ frs X.stack := fun f hf z => by
  rcases List.mem_cons.mp (I.stkSub _ z) with e | e
  · have h1 := I.lt
    rw [← e] at h1
    exact Nat.lt_irrefl _ (Nat.lt_of_lt_of_le h1 hf)
  · exact I.nofs hf e
theorem lam_eval0 {T : List (Addr × Str)} {c P : Addr} {body : Expr} {scope : Scope} {pos : Pos} {E : Value → Shared → Prop} (I : Inv X pins σ H s) (TB : TabB X.base X.mg c P) (hcode : X.env.code = .ref c)
    (hm : (P, X.env.qual ++ "<lambda>") ∈ T) (hu : ∀ p ∈ T, p.1 = P → p.2 = X.env.qual ++ "<lambda>") (hT : Tabs T H) (hfree : ∀ y ∈ scope.names, y.2 = .free → ∃ c, X.env.cells.lookup y.1 = some c) :
    wpAny (model X.prog X.w) X.A (eval (.Lambda ⟨[], [], none, [], [], none, []⟩ body scope pos) X.env) (LamMade X σ pins T P pos ⟨[], [], none, [], [], none, []⟩ body scope [] H) E s := by
  refine PySem.W.kla_eval rfl ?_
  rw [makeFunction_eq]
  simp only [List.zip_nil_right, List.filterMap_nil, List.isEmpty_nil, if_true, pure_bind]
  exact lam_tail I TB hcode hm hu hT hfree fun f c' pm ctv doc H1 s' I1 kp eN g T1 co sz hf hfn => ⟨f, c', pm, ctv, doc, .none, H1, [], rfl, I1, eN, g, T1, co.code T1 hm, hf, hfn, nofr_of I f sz, fun y hy => absurd hy (by simp), fun s1 _ => BindsTo.of_eq rfl⟩
theorem lam_eval1 {T : List (Addr × Str)} {c P : Addr} {body : Expr} {scope : Scope} {pos : Pos} {a : Str} {an : Option Expr} {ap dp : Pos} {n : Int} {k : Nat} (I : Inv X pins σ H s) (TB : TabB X.base X.mg c P) (hcode : X.env.code = .ref c)
    (hm : (P, X.env.qual ++ "<lambda>") ∈ T) (hu : ∀ p ∈ T, p.1 = P → p.2 = X.env.qual ++ "<lambda>") (hT : Tabs T H) (hfree : ∀ y ∈ scope.names, y.2 = .free → ∃ c, X.env.cells.lookup y.1 = some c) :
    wpAny (model X.prog X.w) X.A (eval (.Lambda ⟨[], [⟨a, an, ap⟩], none, [], [], none, [.Constant (.int n) k dp]⟩ body scope pos) X.env) (LamMade X σ pins T P pos ⟨[], [⟨a, an, ap⟩], none, [], [], none, [.Constant (.int n) k dp]⟩ body scope [a] H) X.xe s := by
  refine PySem.W.kdv_lam rfl rfl ?_
  refine PySem.W.kdv_all1 (thn (pe_int.run pins s σ H (fun v H1 => v = .int n ∧ H1 = H) I ⟨rfl, rfl⟩) fun v s0 ⟨x, H0, I0, r0, q0⟩ => PySem.W.kdv_all0 ?_)
  obtain ⟨ex, eH⟩ := q0
  subst ex
  rw [eH] at I0
  rw [makeFunction_eq]
  simp only [List.zip_nil_right, List.filterMap_nil, List.isEmpty_nil, if_true, pure_bind, List.isEmpty_cons, Bool.false_eq_true, if_false]
  refine wpAny_bind (wpAny_newTextTuple ?_)
  have I2 : Inv X pins σ H { s0 with heap := s0.heap.push (PySem.W.kdv_tup [v]) } := I0.kept (t' := s0.toks) fun b o e => Heap.get?_push_of_some _ e
  have hTup : (s0.heap.push (PySem.W.kdv_tup [v])).get? s0.heap.objs.size = some (PySem.W.kdv_tup [v]) := Heap.get?_push_size _ rfl
  have nT : H s0.heap.objs.size = none := I0.hok.fresh (Nat.le_refl _)
  exact lam_tail I2 TB hcode hm hu hT hfree fun f c' pm ctv doc H1 s' I1 kp eN g T1 co sz hf hfn => ⟨f, c', pm, ctv, doc, .ref s0.heap.objs.size, H1, [(a, v)], rfl, I1, eN, g, T1, co.code T1 hm, hf, hfn, nofr_of I2 f sz, fun y hy => by
      have e : y = (a, v) := by simpa using hy
      rw [e]; exact List.mem_cons_self .., fun s1 k1 => by
      obtain ⟨z1, z2⟩ := kp _ _ hTup nT
      exact BindsTo.of_defaults rfl (k1 _ _ z1 z2 (nofr_of I0 _ (Nat.le_refl _))) rfl rfl (by
        have e : (a == a) = true := beq_self_eq_true a
        simp [PySem.W.kdv_fn, List.lookup, e]
        try rfl)⟩
end
end
end Jw

set_option maxHeartbeats 2000000
/-! word(lambda: f(..)) -/
namespace Jw
open PySem PySem.Calls PySem.Spec PyProof.Rows L2 LamX
noncomputable section
section
variable {X : Cx} {pins : List (Addr × Obj)} {σ : L2.St} {H : Hp} {s : Shared}
/-- x(), in the def that got the lambda -/
theorem pe_actD {CXg : CXT} {Eg : XK} {Ng : List Str} {qg : Str} {sg : Scope} {g f c' : Addr} {cdg pm ctv doc dV : Value} {params : Arguments} {body : Expr} {scope : Scope} {k i : Nat} {a : Str} {pa : List Str} {own : List Nat} {binds : List (Str × Value)} {pn : List (Addr × Obj)} {xe : Value → Shared → Prop} {W : WX} {E : XK} {tb : TE} {p1 p2 : Pos}
    (I : Inv X pins σ H s) (L : LamSD X.env.scope scope pa) (hNd : X.N.Nodup) (hown : ∀ a ∈ pa, ∃ i ∈ own, X.N[i]? = some a) (hf : s.heap.get? f = some (lamO X params body scope dV doc pm c' ctv)) (hfn : H f = none) (hfr : f ∉ frs X.stack) (hpa : ∀ y ∈ binds, y.1 ∈ pa)
    (hbind : ∀ s1 : Shared, (∀ b o, s.heap.get? b = some o → H b = none → b ∉ frs X.stack → s1.heap.get? b = some o) → BindsTo s1 (lamF X params body scope dV doc pm c' ctv) ⟨[], []⟩ binds)
    (tk : Takes ((cxOf CXg X.prog X.w X.K X.mg X.base Ng qg sg g cdg X.A X.stack s H Eg).tr pn xe) W) (hW : ∀ cls d σ' H', E cls d H' → W cls d σ' H') (hr : Room (k + 1) (X.A.deeper (envOfC qg sg s.heap.objs.size g cdg)))
    (hbody : ∀ (A : Around) (outer : List Env) (s : Shared) (H : Hp), Room k (A.deeper (lamEnv X scope s.heap.objs.size f c')) → PE (lamCx X A outer s H E scope f c') body tb)
    (hN : Ng[i]? = some a) (hv : Vis sg a) (hd : (a == ("__debug__" : Str)) = false) (hcd : (a == ("__classdict__" : Str)) = false) :
    PE ((cxOf CXg X.prog X.w X.K X.mg X.base Ng qg sg g cdg X.A X.stack s H Eg).tr pn xe) (.Call (.Name a p1) [] [] p2)
      (fun σZ HZ Q => σZ[i]? = some (some (.ref f)) ∧ HZ c' = some (CodeO c' (X.env.qual ++ "<lambda>")) ∧ tb (wipe σ own) HZ Q) := by
  refine ⟨fun pinsZ sZ σZ HZ Q IZ h => ?_⟩
  obtain ⟨hs, hc, ht⟩ := h
  refine wpAny_Call_Name_kw (thn ((pe_var (pos := p1) (i := i) hN hv hd hcd).run pinsZ sZ σZ HZ (fun v H1 => v = .ref f ∧ H1 = HZ) IZ ⟨.ref f, hs, rfl, rfl⟩) fun u s1 ⟨v, H1, I1, r1, q1⟩ => ?_)
  obtain ⟨ev, eH⟩ := q1
  subst ev
  rw [eH] at I1
  obtain rfl : u = Value.ref f := r1
  have of1 : s1.heap.get? f = some (lamO X params body scope dV doc pm c' ctv) := I1.base.keep f _ hf hfn hfr (fun z => nomatch (show f ∈ ([] : List Addr) from z))
  refine PySem.W.callWith_F0 ⟨_, _, _, _, of1⟩ ?_
  have un : Un (frs X.stack) [] H HZ s.heap s1.heap := I1.base
  have hb := hbind s1 fun b o e n hb => I1.base.keep b o e n hb (fun z => nomatch (show b ∈ ([] : List Addr) from z))
  obtain ⟨⟨oc, vs, t, hoc, hdc, hvc⟩, _, _⟩ := I1.hok c' _ hc
  have rc : codeAny (model X.prog X.w) (X.A.deeper (envOfC qg sg s.heap.objs.size g cdg)) (.call (.ref f) ⟨[], []⟩) (CR (L2.CX X.prog X.w) (envOfC qg sg s.heap.objs.size g cdg :: X.stack) X.prog X.w HZ s1 Q E) s1 := by
    refine PySem.W.kla_callFunE hr.depth of1 rfl L.co L.gen rfl ⟨c', oc, vs, t, rfl, hoc, hdc, hvc⟩ (hb _ _ _ _ ?_)
    refine wpAny_newFunctionEnv (fun y hy => (L.own y hy).1) (fun y hy => L.loc _ (hpa y hy)) (fun h₁ hns hsb => ⟨I1.nolimit.fresh _ hsb, ?_⟩) L.kind
    show codeAny _ _ (.expr body (lamEnv X scope s1.heap.objs.size f c')) _ _
    have kp : ∀ b o, s1.heap.get? b = some o → h₁.get? b = some o := fun b o e => hsb.extBut b o (Nat.ne_of_lt (Heap.lt_size e)) (Heap.get?_push_of_some _ e)
    have J : Inv (lamCx X (X.A.deeper (envOfC qg sg s.heap.objs.size g cdg)) (envOfC qg sg s.heap.objs.size g cdg :: X.stack) s1 HZ E scope f c') [] (wipe σ own) HZ { s1 with heap := h₁, toks := s1.toks + binds.length } :=
      lamD_start I L hNd hown I1.env0 hr.hd un hns kp
    refine PySem.W.kla_codeExpr (wpAny_mono ((hbody _ _ s1 HZ (hr.deeper _)).run [] _ _ HZ Q J ht) (fun v s' hq => ?_) fun e s' hq => hq)
    obtain ⟨w', H', J', rv, q⟩ := hq
    exact ⟨w', H', J'.os, J'.bare, J'.base, J'.hok, rv, q⟩
  have hx : Passes (L2.CX X.prog X.w) ((cxOf CXg X.prog X.w X.K X.mg X.base Ng qg sg g cdg X.A X.stack s H Eg).tr pn xe) E := passes_call tk hW
  refine wpAny_call (codeAny_mono rc fun r s' hq => ?_)
  cases r with
  | error e => exact hx pinsZ σZ HZ s1 e s' I1 hq
  | ok fl =>
    cases fl with
    | ret u => exact I1.after hq
    | next => exact False.elim hq
    | brk => exact False.elim hq
    | cont => exact False.elim hq
def tLamD (T : List (Addr × Str)) (own : List Nat) (TT : (XK → Hp → VK → Prop) → Hp → VK → Prop) (t : XK → TE) : TE := fun σ H Q => Tabs T H ∧ ∀ H1, ExtN H H1 → Gt H H1 → Tabs T H1 → TT (fun E H' Q' => t E (wipe σ own) H' Q') H1 Q
/-- x(lambda: body) -/
theorem pe_lamcallD {T : List (Addr × Str)} {TT : (XK → Hp → VK → Prop) → Hp → VK → Prop} {x a : Str} {g P : Addr} {k : Nat} {pg : Arguments} {bg : List Stmt} {sg : Scope} {dV kV doc pm cdv ct oc : Value} {an od : Option Addr} {osl : Array (Option Value)} {Ng : List Str}
    {params : Arguments} {body : Expr} {scope : Scope} {pa : List Str} {own : List Nat} {t : XK → TE} {p lpos pos : Pos} (hg : Gl X x) (hm : X.mg x = some (.ref g)) (hk : PySem.W.keepIn X.K (.ref g) = true)
    (lk : X.K.lookup g = some ⟨oc, od, .func (PySem.W.fnOf x x pg bg sg dV kV doc pm an cdv ct), osl⟩) (hcg : PySem.W.codeIn X.K cdv x = true) (hb : L2.Binds X.K (PySem.W.fnOf x x pg bg sg dV kV doc pm an cdv ct) [a] []) (Sg : FnScope Ng [a] sg) (hNg : Ng[0]? = some a) (hva : Vis sg a)
    (hG : GivesTo X Ng x sg g cdv bg a (X.env.qual ++ "<lambda>") TT) (L : LamSD X.env.scope scope pa) (hNd : X.N.Nodup) (hown : ∀ a ∈ pa, ∃ i ∈ own, X.N[i]? = some a)
    (hmk : ∀ pins σ H s, Inv X pins σ H s → Tabs T H → wpAny (model X.prog X.w) X.A (eval (.Lambda params body scope lpos) X.env) (LamMade X σ pins T P lpos params body scope pa H) X.xe s) (hr : Room (k + 2) X.A)
    (hbody : ∀ (A : Around) (outer : List Env) (s : Shared) (H : Hp) (E : XK) (f c' : Addr), Room k (A.deeper (lamEnv X scope s.heap.objs.size f c')) → PE (lamCx X A outer s H E scope f c') body (t E))
    (hdb : (x == ("__debug__" : Str)) = false) (hd : (a == ("__debug__" : Str)) = false) (hcd : (a == ("__classdict__" : Str)) = false) :
    PE X (.Call (.Name x p) [.Lambda params body scope lpos] [] pos) (tLamD T own TT t) := by
  refine ⟨fun pins s σ H Q I h => ?_⟩
  obtain ⟨hT, h⟩ := h
  refine wpAny_Call_Name_kw (ld_glob I hg hm ?_ hdb)
  refine PySem.W.callWith_K (h₀ := X.base) I.ok.mod.kin hk ?_ (by rfl) (by rfl)
  show wpAny _ _ (spliced ((false, eval (.Lambda params body scope lpos) X.env) :: backTo pos (starEach [] X.env))) _ _ s
  refine Calls.spliced_cons (thn (hmk pins σ H s I hT) fun v s' hh => ?_)
  obtain ⟨f, c', pm', ctv, doc', dV', H1, binds, rfl, I1, eN, gt, T1, hco, hf, hfn, hfr, hpa, hbind⟩ := hh
  refine Calls.spliced_nil ⟨I1.kIn, ?_⟩
  have rc : codeAny (model X.prog X.w) X.A (.call (.ref g) ⟨[.ref f], []⟩) (CR C8.CX0 X.stack X.prog X.w H1 s' Q C8.E0) s' := by
    refine run_ofS (N := Ng) (ps := [a]) (us := [.ref f]) (vs := [.ref f]) lk hcg Sg hr I1.env0 (hb s' [.ref f] I1.kIn rfl) (.cons rfl .nil) rfl fun hr' => ?_
    obtain ⟨t', ht', hq'⟩ := hG f c' s' H1 Q (fun E H' Q' => t E (wipe σ own) H' Q') (fun W pn xe E p1 p2 tk hW => pe_actD (i := 0) I1 L hNd hown hf hfn hfr hpa hbind tk hW hr' (fun A outer s H hr2 => hbody A outer s H E f c' hr2) hNg hva hd hcd) hco (h H1 eN gt T1)
    exact ⟨t', ht'.nox, hq'⟩
  refine wpAny_call (codeAny_mono rc fun r s2 hq => ?_)
  cases r with
  | error e => exact (show False from hq).elim
  | ok fl =>
    cases fl with
    | ret u => exact I1.after hq
    | next => exact False.elim hq
    | brk => exact False.elim hq
    | cont => exact False.elim hq
end
/-! ### the word def's body -/
/-- what is wished of an exception -/
def EW (C : Cn) (wd : List (Str × Bool)) (Q : VK) : XK := fun cls d H => ∃ (c : Nat) (p : Str × Bool), cls = .ref (C.ec c) ∧ nth wd c = some p ∧
  ((p.2 = false ∧ C.ef c = none ∧ d = none ∧ ∀ H', Ex' H H' → Q (.str p.1) H') ∨
    (p.2 = true ∧ ∃ f dd v, C.ef c = some f ∧ d = some dd ∧ H dd = some (.xd [(f, v)]) ∧ ∀ H' r, Ex' H H' → H' r = some (.tup [.str p.1, v]) → Q (.ref r) H'))
def TW (C : Cn) (wd : List (Str × Bool)) : (XK → Hp → VK → Prop) → Hp → VK → Prop := fun tl H Q => ∀ R : VK, (∀ v H', Q (.str ⟨#[]⟩) H' → R v H') → tl (EW C wd Q) H R
/-- the def's shape: work, found, the exception's class and name, the suite -/
def kWd (N : List Str) (sc : Scope) (ifd ie : Nat) (aN fN eN jN : Str) (l : List HX) : List Stmt → Bool
  | [.Assign [.Name n1 _] (.Constant (.str z) _ _) _, .Try [.Expr (.Call (.Name n2 _) [] [] _) _] [.ExceptHandler (some (.Name n3 _)) (some n4) (b0 :: su) _] [] [] _, .Return (some (.Name n5 _)) _] =>
    decide (n1 = fN) && decide (z = ⟨#[]⟩) && decide (n2 = aN) && decide (n3 = jN) && decide (n4 = eN) && decide (n5 = fN) && loN N sc fN ifd && loN N sc eN ie && loN N sc aN 0 && glN sc jN && !decide (ifd = 0) && !decide (ifd = ie) && !decide (ie = 0) && kHXs N sc eN l (b0 :: su)
  | _ => false
/-- the classes: what the suite answers -/
structure WdC (C : Cn) (wd : List (Str × Bool)) (K : PySem.W.Frag) (mg : Str → Option Value) (CJ : Addr) (n ifd ie : Nat) (l : List HX) (isa : Nat → Str → Option Bool) : Prop where
  ex : ∀ c p, nth wd c = some p → PySem.W.exmOne K (.ref (C.ec c)) (.ref CJ) = some true ∧ ClsF K (C.ec c) (C.ef c) ∧ (∀ x b, isa c x = some b → IsaF K mg (C.ec c) x b) ∧ (p.2 = true ↔ (C.ef c).isSome = true) ∧
    ∃ S', hxS (isa c) (C.ef c) ie l (List.replicate n none) = some S' ∧ hGet S' ifd = some (if p.2 then .pr p.1 else .st p.1)
section
variable {X : Cx}
theorem hGet_none {n i : Nat} : hGet (List.replicate n none) i = none := by
  unfold hGet
  rw [List.getElem?_replicate]
  by_cases h : i < n
  · rw [if_pos h]; rfl
  · rw [if_neg h]; rfl
theorem word_gives {C : Cn} {wd : List (Str × Bool)} {N : List Str} {sc : Scope} {ifd ie : Nat} {aN fN eN jN x q : Str} {l : List HX} {bg : List Stmt} {g CJ : Addr} {cdg : Value} {isa : Nat → Str → Option Bool} (hk : kWd N sc ifd ie aN fN eN jN l bg = true) (hnd : N.Nodup) (hkind : sc.kind = .function)
    (hJ : X.mg jN = some (.ref CJ)) (hmi : X.mg "isinstance" = none) (W : WdC C wd X.K X.mg CJ N.length ifd ie l isa) (hu : ∀ L cd, (X.A.deeper (envOfC x sc L g cd)).units + 64 < cLine) : GivesTo X N x sc g cdg bg aN q (TW C wd) := by
  intro f c' s H Q tl act hc h
  unfold kWd at hk
  split at hk
  · rename_i n1 p1 z k1 p2 p3 n2 p4 p5 p6 n3 p7 n4 b0 su p8 p9 n5 p10 p11
    simp only [Bool.and_eq_true, decide_eq_true_eq, Bool.not_eq_true', decide_eq_false_iff_not] at hk
    obtain ⟨⟨⟨⟨⟨⟨⟨⟨⟨⟨⟨⟨⟨e1, e2⟩, e3⟩, e4⟩, e5⟩, e6⟩, h1⟩, h2⟩, h3⟩, h4⟩, h5⟩, h6⟩, h7⟩, h8⟩ := hk
    subst n1 n5 n2 n3 n4 z
    have k1 : okn aN = true ∧ okn fN = true ∧ okn eN = true := ⟨by unfold loN at h3; simp only [Bool.and_eq_true] at h3; exact h3.2, by unfold loN at h1; simp only [Bool.and_eq_true] at h1; exact h1.2, by unfold loN at h2; simp only [Bool.and_eq_true] at h2; exact h2.2⟩
    unfold loN at h1 h2 h3
    unfold glN at h4
    simp only [Bool.and_eq_true, decide_eq_true_eq] at h1 h2 h3 h4
    obtain ⟨⟨a1, a2⟩, _⟩ := h1
    obtain ⟨⟨b1, b2⟩, _⟩ := h2
    obtain ⟨⟨c1, c2⟩, _⟩ := h3
    have hgl : Gl (cxOf C8.CX0 X.prog X.w X.K X.mg X.base N x sc g cdg X.A X.stack s H C8.E0).nox jN := h4.1
    have hlen : (L2.start N [V.ref f]).length = N.length := by
      unfold L2.start
      rw [List.length_append, List.length_map, List.length_replicate]
      have : 0 < N.length := by
        have := (List.getElem?_eq_some_iff.mp c1).1
        omega
      simp
      omega
    have i1 : ifd < (L2.start N [V.ref f]).length := by rw [hlen]; exact (List.getElem?_eq_some_iff.mp a1).1
    refine ⟨_, pss_cons (ps_asg (X := (cxOf C8.CX0 X.prog X.w X.K X.mg X.base N x sc g cdg X.A X.stack s H C8.E0).nox) pe_str (pg_name (X := (cxOf C8.CX0 X.prog X.w X.K X.mg X.base N x sc g cdg X.A X.stack s H C8.E0).nox) hnd a1 (.inl a2) (.inr a2)) rfl rfl) (pss_cons (ps_try_as (X := (cxOf C8.CX0 X.prog X.w X.K X.mg X.base N x sc g cdg X.A X.stack s H C8.E0).nox) (c := .ref CJ)
      (tb := fun W D σ H => ∃ Ech : XK, (∀ cls d σ' H', Ech cls d H' → W cls d σ' H') ∧ σ[0]? = some (some (.ref f)) ∧ H c' = some (CodeO c' q) ∧ tl Ech H (fun _ H' => D.nx σ H'))
      (ts := fun a cls d D σ H => ∃ (c : Nat) (p : Str × Bool) (arg : V), cls = .ref (C.ec c) ∧ nth wd c = some p ∧ (σ.length = N.length → tHXs ⟨a, C.ec c, d, ie, H, arg⟩ (isa c) (C.ef c) l D σ H))
      rfl rfl hnd b1 b2 ⟨hgl, (okn2 h4.2).1, .inl hJ⟩ LamX.takes0 (fun W' pn xe tk _ => ?_) (fun a oe cls d pn hz hf => ?_)) (pss_one (ps_ret (pe_var (X := (cxOf C8.CX0 X.prog X.w X.K X.mg X.base N x sc g cdg X.A X.stack s H C8.E0).nox) a1 (.inl a2) (okn2 k1.2.1).1 (okn2 k1.2.1).2)))), ?_⟩
    · refine ⟨fun pins s' σ H' D I hh => ?_⟩
      obtain ⟨Ech, hW, h1, h2, h3⟩ := hh
      exact (pss_one (ps_expr (act W' pn xe Ech p4 p5 tk hW) rfl)).run pins s' σ H' D I ⟨h1, h2, h3⟩
    · refine ⟨fun pins s' σ H' D I ⟨c, p, arg, ec, hw, hh⟩ => ?_⟩
      subst ec
      obtain ⟨w1, w2, w3, w4, w5⟩ := W.ex c p hw
      exact (kHXs_ok (X := (cxOf C8.CX0 X.prog X.w X.K X.mg X.base N x sc g cdg X.A X.stack s H C8.E0).nox) (h := ⟨a, C.ec c, d, ie, H', arg⟩) (pn := pn) ⟨w2, hz, hf, rfl, hnd, rfl, by unfold loN; simp only [Bool.and_eq_true, decide_eq_true_eq]; exact ⟨⟨b1, b2⟩, k1.2.2⟩, hmi, w3, hu _ _⟩ h8).run pins s' σ H' D I (hh I.len)
    · refine ⟨EW C wd Q, fun cls d σ' H' hE => ?_, ?_, hc, h _ fun v H' hQ => ?_⟩
      · obtain ⟨c, p, rfl, hw, hE⟩ := hE
        obtain ⟨w1, w2, w3, w4, S', w5, w6⟩ := W.ex c p hw
        refine ⟨true, w1, fun _ a ha => ?_, fun z => by cases z⟩
        have fin : ∀ arg : V, (∀ f, C.ef c = some f → ∃ dd, d = some dd ∧ H' dd = some (.xd [(f, arg)])) → (∀ dd, d = some dd → ∃ fs, H' dd = some (.xd fs)) → (∀ σ2 H2 v, Ex' H' H2 → HR ⟨a, C.ec c, d, ie, H', arg⟩ H2 (if p.2 then .pr p.1 else .st p.1) v → Q v H2) →
            ∃ (c' : Nat) (p : Str × Bool) (arg : V), Value.ref (C.ec c) = .ref (C.ec c') ∧ nth wd c' = some p ∧ ((σ'.set ie (some (V.ref a))).length = N.length → tHXs ⟨a, C.ec c', d, ie, H', arg⟩ (isa c') (C.ef c') l { nx := fun σ' H' => ∃ v, (σ'.set ie none)[ifd]? = some (some v) ∧ Q v H', rt := Q, bk := fun _ _ => False, ct := fun _ _ => False } (σ'.set ie (some (V.ref a))) H') := fun arg g1 g2 g3 => by
          refine ⟨c, p, arg, rfl, hw, fun hl => ⟨List.replicate N.length none, S', ⟨fun i hv e => ?_, ?_, fun _ _ z => z, g1, g2⟩, w5, fun σ2 H2 s2 => ?_⟩⟩
          · rw [hGet_none] at e; cases e
          · exact List.getElem?_set_self (by rw [List.length_set] at hl; rw [hl]; exact (List.getElem?_eq_some_iff.mp b1).1)
          · obtain ⟨v, z1, z2⟩ := s2.sl ifd _ w6
            exact ⟨v, by rw [List.getElem?_set_ne (Ne.symm h6)]; exact z1, g3 σ2 H2 v s2.ext z2⟩
        rcases hE with ⟨e1, e2, e3, e4⟩ | ⟨e1, f', dd, v, e2, e3, e4, e5⟩
        · refine fin .non (fun f hf => by rw [e2] at hf; cases hf) (fun dd hd => by rw [e3] at hd; cases hd) fun σ2 H2 v x r => ?_
          rw [e1] at r
          have r : v = .str p.1 := r
          rw [r]; exact e4 H2 x
        · refine fin v (fun f hf => ⟨dd, e3, by rw [e2] at hf; cases hf; exact e4⟩) (fun dd' hd => by rw [e3] at hd; cases hd; exact ⟨_, e4⟩) fun σ2 H2 u x r => ?_
          rw [e1] at r
          obtain ⟨r', er, z⟩ := (show ∃ r', u = .ref r' ∧ H2 r' = some (.tup [.str p.1, v]) from r)
          rw [er]; exact e5 H2 r' x z
      · rw [List.getElem?_set_ne h5]; rfl
      · exact ⟨.str ⟨#[]⟩, List.getElem?_set_self i1, hQ⟩
  · cases hk
end
/-! ### the rule -/
section
variable {X : Cx} {C : Cn} {K : PySem.W.Frag} {ι ι1 : Im} {H H1 : Hp} {m : M} {Q R : VK} {Γ : Pg}
theorem simH_ext (S : SimH X.K C ι m H) (e : Ex' H H1) : SimH X.K C ι m H1 := simH_growN S (ExtN.of e) (fun P ps z => ⟨#[], by rw [e _ _ z, Array.append_empty]⟩) (S.tabs.ext e)
theorem catch_ok (hR : ∀ v H', Q (.str ⟨#[]⟩) H' → R v H') (t0 : Tk X.K H H1) : ∀ {r : RE W}, PostE (QV X.K C ι H Q) (catchW Γ r) → PostX (QV X.K C ι H1 R) (QX X.K C ι H1 (EW C Γ.wd Q)) r := fun {r} => by
  induction r with
  | ok w m => exact fun p ι' H' v S l t _ => hR v H' (p ι' H' (.str ⟨#[]⟩) S l (t0.trans t) (.str ⟨#[]⟩))
  | exc x m =>
    intro p ι' H' d S l t xr
    obtain ⟨p0, hw, p⟩ := PostE.liftO (show PostE (QV X.K C ι H Q) (liftO 63 (nth Γ.wd x.cls) fun p => lift (wordOf p x) fun w => .ok w m) from p)
    obtain ⟨w, ew, p⟩ := PostE.lift p
    have p : QV X.K C ι H Q w m := p
    refine ⟨x.cls, p0, rfl, hw, ?_⟩
    obtain ⟨c, args⟩ := x
    unfold wordOf at ew
    dsimp only at ew
    split at ew
    · obtain ⟨x1, x2⟩ := (show C.ef c = none ∧ d = none from xr)
      cases h2 : p0.2 with
      | true => rw [h2] at ew; cases ew
      | false =>
        rw [h2] at ew
        cases ew
        exact .inl ⟨rfl, x1, x2, fun H2 ex => p ι' H2 _ (simH_ext S ex) l ((t0.trans t).trans (.ext ex)) (.str _)⟩
    · rename_i w1 _
      obtain ⟨f, dd, v, x1, x2, x3, x4⟩ := (show ∃ f dd v, C.ef c = some f ∧ d = some dd ∧ H' dd = some (.xd [(f, v)]) ∧ RepV C (TT' X.K H') ι' w1 v from xr)
      cases h2 : p0.2 with
      | false => rw [h2] at ew; cases ew
      | true =>
        rw [h2] at ew
        cases ew
        exact .inr ⟨rfl, f, dd, v, x1, x2, x3, fun H2 r ex hr => p ι' H2 _ (simH_ext S ex) l ((t0.trans t).trans (.ext ex)) (.tup hr (.cons (.str _) (.cons (x4.mono (.ext ex) (Le.refl _)) .nil)))⟩
    · cases ew
  | er e => exact id
  | draw n k ih => exact fun p d hd => ih _ (p d hd)
/-- what is known of the word def -/
def WordOk (C : Cn) (Γ : Pg) (X : Cx) (x : Str) : Prop := ∃ (aN : Str) (g : Addr) (pg : Arguments) (bg : List Stmt) (sg : Scope) (dV kV doc pm cdv ct oc : Value) (an od : Option Addr) (osl : Array (Option Value)) (Ng : List Str), X.mg x = some (.ref g) ∧ PySem.W.keepIn X.K (.ref g) = true ∧
  X.K.lookup g = some ⟨oc, od, .func (PySem.W.fnOf x x pg bg sg dV kV doc pm an cdv ct), osl⟩ ∧ PySem.W.codeIn X.K cdv x = true ∧ L2.Binds X.K (PySem.W.fnOf x x pg bg sg dV kV doc pm an cdv ct) [aN] [] ∧ FnScope Ng [aN] sg ∧ Ng[0]? = some aN ∧ Vis sg aN ∧ okn aN = true ∧
  ((∀ L cd, (X.A.deeper (envOfC x sg L g cd)).units + 64 < cLine) → ∀ q, GivesTo X Ng x sg g cdv bg aN q (TW C Γ.wd))
theorem snd_word {x : Str} {P : Addr} {k : Nat} {params : Arguments} {body : Expr} {scope : Scope} {pa : List Str} {own : List Nat} {g : Sl → M → RE W} {p lpos pos : Pos} (W : WordOk C Γ X x) (hg : Gl X x) (hx : okn x = true) (L : LamSD X.env.scope scope pa) (hNd : X.N.Nodup) (hown : ∀ a ∈ pa, ∃ i ∈ own, X.N[i]? = some a)
    (hmk : ∀ pins σ H s, Inv X pins σ H s → Tabs C.tb H → wpAny (model X.prog X.w) X.A (eval (.Lambda params body scope lpos) X.env) (LamMade X σ pins C.tb P lpos params body scope pa H) X.xe s) (hr : Room (k + 2) X.A)
    (hbody : ∀ (A : Around) (outer : List Env) (s : Shared) (H : Hp) (E : XK) (f c' : Addr), Room k (A.deeper (lamEnv X scope s.heap.objs.size f c')) → PE (lamCx X A outer s H E scope f c') body (tGX E X.K C g)) :
    Snd X C (.Call (.Name x p) [.Lambda params body scope lpos] [] pos) (fun σ m => catchW Γ (g (wipeW σ own) m)) := by
  obtain ⟨aN, ga, pg, bg, sg, dV, kV, doc, pm, cdv, ct, oc, an, od, osl, Ng, w1, w2, w3, w4, w5, w6, w7, w8, w9, w10⟩ := W
  have hG := w10 (fun L cd => by
    have := (hr.deeper (envOfC x sg L ga cd)).units
    omega) (X.env.qual ++ "<lambda>")
  refine Snd.val ⟨fun _ _ => rfl, fun _ _ => rfl, fun _ _ => rfl, fun op => by cases op <;> rfl, fun _ _ _ => rfl, fun _ _ _ _ => rfl⟩ ((pe_lamcallD (T := C.tb) (TT := TW C Γ.wd) (t := fun E => tGX E X.K C g) hg w1 w2 w3 w4 w5 w6 w7 w8 hG L hNd hown hmk hr hbody (okn2 hx).1 (okn2 w9).1 (okn2 w9).2).mono fun σ H Q ⟨ι, σ', m, s, S, p⟩ => ?_) fun _ => rfl
  refine ⟨S.tabs, fun H1 eN gt T1 R hR => ?_⟩
  have t0 : Tk X.K H H1 := ⟨fun q vs e => eN q _ e (fun ps z => by cases z), fun q o u e => eN q _ e (fun ps z => by cases z)⟩
  exact ⟨ι, wipeW σ' own, m, (s.mono t0 (Le.refl _)).wipe own, simH_growN S eN gt T1, catch_ok hR t0 p⟩
end
end
end Jw

/-! The check is sound: expressions. -/
namespace Jw
open PySem PySem.Spec PyProof.Rows L2
noncomputable section
def bltN : List Str := ["len", "all", "any", "sum", "sorted", "tuple", "list", "int", "abs", "min", "max", "isinstance", "bool", "str", "range", "enumerate", "set", "dict", "zip"]
section
variable (C : Cn) (Γ : Pg) (nm : List (Str × Nat)) (gn : List Str)
structure Bl (K : PySem.W.Frag) (mg : Str → Option Value) : Prop where
  blt : ∀ x ∈ bltN, mg x = none
  gv : ∀ (j : Nat) (x : Str), gn[j]? = some x → ∃ u w, mg x = some u ∧ nth Γ.gv j = some w ∧ ∃ v, RelV v u ∧ ∀ H ι, RepV C (TT' K H) ι w v
  rng : Rng Γ C
  kl : Kl C K mg
def ciOf (C : Cn) : CI := ⟨C.fl, C.mn, C.cn⟩
/-- every class has an __init__ -/
def Mi (C : Cn) (Γ : Pg) : Prop := ∀ (c : Nat) (x : Str), C.cn[c]? = some x → ∃ ms f np, nth Γ.cl c = some ms ∧ methOf 0 ms = some (f, np)
def Fo (P : Program) (w : World) (K : PySem.W.Frag) (mg : Str → Option Value) (base : Heap) (n d : Nat) : Prop := Γ.ar = nm.map (·.2) ∧ (∀ (j : Nat) (x : Str) (k : Nat), nm[j]? = some (x, k) →
  ∃ (fd : FuncData) (ps : List Str), FnOk P w K mg base (L2.CX P w) (d + 2) (C.ga j) fd ps (spF K C k fun ws m => callW Γ (ev Γ n) d j ws m) ∧ mg x = some (.ref (C.ga j)) ∧ PySem.W.keepIn K (.ref (C.ga j)) = true ∧ Binds K fd ps []) ∧
  FoM C Γ P w K mg base (d + 2) (fun f ws m => callW Γ (ev Γ n) d f ws m) ∧ Mi C Γ
structure Gd (X : Cx) (Y : Sc) (d : Nat) : Prop where
  N : X.N = Y.N
  sc : X.env.scope = Y.sc
  fn : X.fn = Y.fn
  calm : X.calm = true
  nd : Y.N.Nodup
  wo : ∀ x, Y.wd = some x → WordOk C Γ X x
  en : ∀ (c : Nat) (x : Str × Bool), Y.en[c]? = some x → Ec C X.K X.prog X.mg c x
  room : Room (d + 2) X.A
  bl : Bl C Γ gn X.K X.mg
  lam : Y.lam = true → ∃ c P, LamX.TabB X.base X.mg c P ∧ X.env.code = .ref c ∧ (P, X.env.qual ++ "<lambda>") ∈ C.tb ∧ ∀ q ∈ C.tb, q.1 = P → q.2 = X.env.qual ++ "<lambda>"
  ci : ciOf C = Y.ci
end
section
variable {C : Cn} {Γ : Pg} {nm : List (Str × Nat)} {gn : List Str} {X : Cx} {Y : Sc} {d n : Nat}
theorem Gd.hu (G : Gd C Γ gn X Y d) : X.A.units + 64 < cLine := G.room.units
theorem gli_ok (G : Gd C Γ gn X Y d) {x : Str} (h : gli Y x = true) : Gl X x := by
  have h := of_decide_eq_true h
  show X.env.scope.names.lookup x = _
  rw [G.sc]; exact h
theorem vis_ok (G : Gd C Γ gn X Y d) {x : Str} (h : vis Y x = true) : Vis X.env.scope x := by
  rw [G.sc]
  unfold vis at h
  simp only [Bool.or_eq_true, decide_eq_true_eq] at h
  rcases h with (h | h) | h
  · exact .inl h
  · exact .inr (.inl h)
  · exact .inr (.inr h)
theorem stB_ok (G : Gd C Γ gn X Y d) {x : Str} (h : stB Y x = true) : Loc X.env.scope x ∧ (X.fn x = true ∨ X.env.scope.names.lookup x = some .local) := by
  rw [G.sc, G.fn]
  unfold stB at h
  simp only [Bool.or_eq_true, Bool.and_eq_true, decide_eq_true_eq] at h
  rcases h with h | ⟨h, h2⟩
  · exact ⟨.inl h, .inr h⟩
  · exact ⟨.inr h, .inl h2⟩
theorem okn_ok {x : Str} (h : okn x = true) : (x == ("__debug__" : Str)) = false ∧ (x == ("__classdict__" : Str)) = false := by
  unfold okn at h
  rw [Bool.and_eq_true, Bool.not_eq_true', Bool.not_eq_true'] at h
  exact h
theorem N_ok (G : Gd C Γ gn X Y d) {i : Nat} {x : Str} (h : Y.N[i]? = some x) : X.N[i]? = some x := by rw [G.N]; exact h
theorem Gd.ndX (G : Gd C Γ gn X Y d) : X.N.Nodup := by rw [G.N]; exact G.nd
variable {r : Sc → Expr → Ex → Bool}
/-- what the check at less fuel gives -/
abbrev Fx (C : Cn) (Γ : Pg) (nm : List (Str × Nat)) (X : Cx) (n : Nat) (_ : Nat) : Prop := ∀ k, k ≤ n → ∀ d, Fo C Γ nm X.prog X.w X.K X.mg X.base k d
abbrev Hr (C : Cn) (Γ : Pg) (nm : List (Str × Nat)) (gn : List Str) (r : Sc → Expr → Ex → Bool) (n d : Nat) : Prop := ∀ (X : Cx) (Y : Sc) (e : Expr) (x : Ex), Gd C Γ gn X Y d → Fx C Γ nm X n d → r Y e x = true → Snd X C e (fun σ m => (ev Γ n).e d x σ m)
/-- .. of calls, whose exceptions pass -/
abbrev HrX (C : Cn) (Γ : Pg) (nm : List (Str × Nat)) (gn : List Str) (r : Sc → Expr → Ex → Bool) (n d : Nat) : Prop := ∀ (E : XK) (X : Cx) (Y : Sc) (e : Expr) (x : Ex), Gd C Γ gn X Y d → Fx C Γ nm X n d → Takes X (fun cls d _ H => E cls d H) → isCallE x = true → r Y e x = true → SndX E X C e (fun σ m => (ev Γ n).e d x σ m)
/-- the statements' context -/
structure Gx (E : XK) (X : Cx) : Prop where
  po : PassesOwn (model X.prog X.w) X.A X.env X.xe
  tk : Takes X (fun cls d _ H => E cls d H)
theorem blt_ok (G : Gd C Γ gn X Y d) {x : Str} (h : x ∈ bltN) : X.mg x = none := G.bl.blt x h
theorem kL_ok (hr : Hr C Γ nm gn r n d) (G : Gd C Γ gn X Y d) (F : Fx C Γ nm X n d) : ∀ {es : List Expr} {l : List Ex}, kL r Y es l = true → SndA X C es (fun σ m => evL (ev Γ n) d σ l m) ∧ es.length = l.length
  | [], [], _ => ⟨snda_nil, rfl⟩
  | e :: es, x :: xs, h => by
    unfold kL at h
    rw [Bool.and_eq_true] at h
    obtain ⟨h1, h2⟩ := kL_ok hr G F h.2
    exact ⟨snda_cons (hr X Y e x G F h.1) h1, by rw [List.length_cons, List.length_cons, h2]⟩
  | [], _ :: _, h => by cases h
  | _ :: _, [], h => by cases h
theorem kAn_ok (hr : Hr C Γ nm gn r n d) (G : Gd C Γ gn X Y d) (F : Fx C Γ nm X n d) {pos : Pos} : ∀ {es : List Expr} {l : List Ex} {e : Expr} {x : Ex}, kL r Y (e :: es) (x :: l) = true → SndW X C (.BoolOp .And (e :: es) pos) (fun σ m => evAn (ev Γ n) d σ (x :: l) m)
  | [], [], e, x, h => by
    unfold kL at h
    rw [Bool.and_eq_true] at h
    exact andLast (hr X Y e x G F h.1)
  | e2 :: es, x2 :: l, e, x, h => by
    unfold kL at h
    rw [Bool.and_eq_true] at h
    exact andOk (hr X Y e x G F h.1) (kAn_ok hr G F h.2)
  | [], _ :: _, e, x, h => by
    unfold kL at h
    rw [Bool.and_eq_true] at h
    cases h.2
  | _ :: _, [], e, x, h => by
    unfold kL at h
    rw [Bool.and_eq_true] at h
    cases h.2
theorem kOr_ok (hr : Hr C Γ nm gn r n d) (G : Gd C Γ gn X Y d) (F : Fx C Γ nm X n d) {pos : Pos} : ∀ {es : List Expr} {l : List Ex} {e : Expr} {x : Ex}, kL r Y (e :: es) (x :: l) = true → SndW X C (.BoolOp .Or (e :: es) pos) (fun σ m => evOr (ev Γ n) d σ (x :: l) m)
  | [], [], e, x, h => by
    unfold kL at h
    rw [Bool.and_eq_true] at h
    exact orLast (hr X Y e x G F h.1)
  | e2 :: es, x2 :: l, e, x, h => by
    unfold kL at h
    rw [Bool.and_eq_true] at h
    exact orOk (hr X Y e x G F h.1) (kOr_ok hr G F h.2)
  | [], _ :: _, e, x, h => by
    unfold kL at h
    rw [Bool.and_eq_true] at h
    cases h.2
  | _ :: _, [], e, x, h => by
    unfold kL at h
    rw [Bool.and_eq_true] at h
    cases h.2
theorem kCall1_inv {name : Str} {a : Ex} {e : Expr} (h : kCall1 r Y name a e = true) : ∃ p x pos, e = .Call (.Name name p) [x] [] pos ∧ gli Y name = true ∧ r Y x a = true := by
  unfold kCall1 at h
  split at h
  · simp only [Bool.and_eq_true, decide_eq_true_eq] at h
    obtain ⟨⟨rfl, h2⟩, h3⟩ := h
    exact ⟨_, _, _, rfl, h2, h3⟩
  · cases h
theorem kCall2_inv {name : Str} {a b : Ex} {e : Expr} (h : kCall2 r Y name a b e = true) : ∃ p x y pos, e = .Call (.Name name p) [x, y] [] pos ∧ gli Y name = true ∧ r Y x a = true ∧ r Y y b = true := by
  unfold kCall2 at h
  split at h
  · simp only [Bool.and_eq_true, decide_eq_true_eq] at h
    obtain ⟨⟨⟨rfl, h2⟩, h3⟩, h4⟩ := h
    exact ⟨_, _, _, _, rfl, h2, h3, h4⟩
  · cases h
theorem kIsa_inv {name : Str} {a : Ex} {e : Expr} (h : kIsa r Y name a e = true) : ∃ p q x pos, e = .Call (.Name "isinstance" p) [x, .Name name q] [] pos ∧ gli Y "isinstance" = true ∧ gli Y name = true ∧ r Y x a = true := by
  unfold kIsa at h
  split at h
  · simp only [Bool.and_eq_true, decide_eq_true_eq] at h
    obtain ⟨⟨⟨⟨rfl, rfl⟩, h2⟩, h3⟩, h4⟩ := h
    exact ⟨_, _, _, _, rfl, h2, h3, h4⟩
  · cases h
theorem kM0_inv {name : Str} {a : Ex} {e : Expr} (h : kM0 r Y name a e = true) : ∃ o apos cpos, e = .Call (.Attribute o name apos) [] [] cpos ∧ noBase o = true ∧ (apos.endLine == cpos.line) = true ∧ r Y o a = true := by
  unfold kM0 at h
  split at h
  · simp only [Bool.and_eq_true, decide_eq_true_eq] at h
    obtain ⟨⟨⟨rfl, h2⟩, h3⟩, h4⟩ := h
    exact ⟨_, _, _, rfl, h2, h3, h4⟩
  · cases h
theorem kOn_inv {fn name : Str} {a : Ex} {e : Expr} (h : kOn r Y fn name a e = true) : ∃ p o apos cpos pos, e = .Call (.Name fn p) [.Call (.Attribute o name apos) [] [] cpos] [] pos ∧ gli Y fn = true ∧ noBase o = true ∧ (apos.endLine == cpos.line) = true ∧ r Y o a = true := by
  unfold kOn at h
  split at h
  · simp only [Bool.and_eq_true, decide_eq_true_eq] at h
    obtain ⟨⟨⟨⟨⟨rfl, h1⟩, rfl⟩, h2⟩, h3⟩, h4⟩ := h
    exact ⟨_, _, _, _, _, rfl, h1, h2, h3, h4⟩
  · cases h
theorem kM1_inv {name : Str} {a b : Ex} {e : Expr} (h : kM1 r Y name a b e = true) : ∃ o x apos cpos, e = .Call (.Attribute o name apos) [x] [] cpos ∧ noBase o = true ∧ (apos.endLine == cpos.line) = true ∧ r Y o a = true ∧ r Y x b = true := by
  unfold kM1 at h
  split at h
  · simp only [Bool.and_eq_true, decide_eq_true_eq] at h
    obtain ⟨⟨⟨⟨rfl, h2⟩, h3⟩, h4⟩, h5⟩ := h
    exact ⟨_, _, _, _, rfl, h2, h3, h4, h5⟩
  · cases h
theorem isa_int : IsaOk "int" tInt := by unfold IsaOk; decide +kernel
theorem isa_bool : IsaOk "bool" (Nat.beq 1) := by unfold IsaOk; decide +kernel
theorem isa_tuple : IsaOk "tuple" (Nat.beq 4) := by unfold IsaOk; decide +kernel
theorem isa_str : IsaOk "str" (Nat.beq 3) := by unfold IsaOk; decide +kernel
theorem isa_list : IsaOk "list" (Nat.beq 5) := by unfold IsaOk; decide +kernel
theorem boot_boolT : bootBuiltins "bool" = some (.type "bool") := by decide +kernel
theorem boot_strT : bootBuiltins "str" = some (.type "str") := by decide +kernel
theorem boot_lenB : bootBuiltins "len" = some (.builtin "len") := by decide +kernel
theorem boot_intT : bootBuiltins "int" = some (.type "int") := by decide +kernel
theorem boot_listT : bootBuiltins "list" = some (.type "list") := by decide +kernel
theorem boot_tupleT : bootBuiltins "tuple" = some (.type "tuple") := by decide +kernel
theorem kSet_inv {fn : Str} {a : Ex} {e : Expr} (h : kSet r Y fn a e = true) : ∃ p x q ppos pos, e = .Call (.Name fn p) [.Call (.Name "set" q) [x] [] ppos] [] pos ∧ gli Y fn = true ∧ gli Y "set" = true ∧ r Y x a = true := by
  unfold kSet at h
  split at h
  · simp only [Bool.and_eq_true, decide_eq_true_eq] at h
    obtain ⟨⟨⟨⟨rfl, h2⟩, rfl⟩, h4⟩, h5⟩ := h
    exact ⟨_, _, _, _, _, rfl, h2, h4, h5⟩
  · cases h
theorem bind1 {a : Str} {an : Option Expr} {ap : Pos} {body : Expr} {scope : Scope} {cl : List (Str × Addr)} {pm cv ctv u : Value} {q : Str} :
  bindArgs (PySem.W.kla_fn "<lambda>" q ⟨[], [⟨a, an, ap⟩], none, [], [], none, []⟩ body scope cl pm cv ctv) ⟨[u], []⟩ = pure [(a, u)] := by
  have e : (a == a) = true := beq_self_eq_true a
  unfold bindArgs
  simp [PySem.W.kla_fn, seqItems?, List.lookup, e]
  rfl
theorem lam_gd (G : Gd C Γ gn X Y (d + 3)) {scope : Scope} {A : Around} {outer : List Env} {s : Shared} {H : Hp} {f c' : Addr} (h : Room (d + 2) (A.deeper (LamX.lamEnv X scope s.heap.objs.size f c'))) : Gd C Γ gn (LamX.lamCx X A outer s H (fun _ _ _ => False) scope f c').nox (lamY Y scope) d :=
  ⟨G.N, rfl, rfl, rfl, G.nd, (fun x h => by cases h), (fun c x h => by cases c <;> cases h), h, G.bl, (fun z => by cases z), G.ci⟩
theorem lam_gdX {E : XK} (G : Gd C Γ gn X Y (d + 2)) {scope : Scope} {A : Around} {outer : List Env} {s : Shared} {H : Hp} {f c' : Addr} (h : Room (d + 2) (A.deeper (LamX.lamEnv X scope s.heap.objs.size f c'))) : Gd C Γ gn (LamX.lamCx X A outer s H E scope f c') (lamY Y scope) d :=
  ⟨G.N, rfl, rfl, rfl, G.nd, (fun x h => by cases h), (fun c x h => by cases c <;> cases h), h, G.bl, (fun z => by cases z), G.ci⟩
theorem kWord_ok (hxd : ∀ d, HrX C Γ nm gn r n d) (G : Gd C Γ gn X Y d) (F : Fx C Γ nm X n d) {own : List Nat} {b : Ex} {e : Expr} (h : kWord r Y own b e = true) : Snd X C e (fun σ m => sWord own b Γ (ev Γ n) d σ m) := by
  unfold kWord at h
  split at h
  · rename_i s p params body scope lpos pos
    simp only [Bool.and_eq_true, decide_eq_true_eq] at h
    obtain ⟨⟨⟨⟨⟨⟨h1, h2⟩, h3⟩, h4⟩, h5⟩, h6⟩, h7⟩ := h
    have nice : Nice (.Call (.Name s p) [.Lambda params body scope lpos] [] pos) := ⟨fun _ _ => rfl, fun _ _ => rfl, fun _ _ => rfl, fun op => by cases op <;> rfl, fun _ _ _ => rfl, fun _ _ _ _ => rfl⟩
    have never : ∀ g : Sl → M → RE W, (∀ σ m, ∃ e, g σ m = .er e) → Snd X C (.Call (.Name s p) [.Lambda params body scope lpos] [] pos) g := fun g hg => ⟨nice, ⟨fun pins s σ H Q I ⟨ι, σ', m, _, _, p⟩ => by
      obtain ⟨e, he⟩ := hg σ' m
      rw [he] at p; exact p.elim⟩, ⟨fun pins s σ H Q I ⟨ι, σ', m, _, _, p⟩ => by
      obtain ⟨e, he⟩ := hg σ' m
      rw [he] at p; exact p.elim⟩⟩
    cases d with
    | zero => exact never _ fun σ m => ⟨_, rfl⟩
    | succ d =>
      cases d with
      | zero => exact never _ fun σ m => ⟨_, rfl⟩
      | succ d =>
        obtain ⟨c, P, TB, hcode, hm, hu⟩ := G.lam h2
        have F2 : Fx C Γ nm X n d := F
        have body_ : ∀ (A : Around) (outer : List Env) (s : Shared) (H : Hp) (E : XK) (f c' : Addr), Room (d + 2) (A.deeper (LamX.lamEnv X scope s.heap.objs.size f c')) → PE (LamX.lamCx X A outer s H E scope f c') body (tGX E X.K C fun σ m => (ev Γ n).e d b σ m) := fun A outer s H E f c' hR =>
          (hxd d E (LamX.lamCx X A outer s H E scope f c') (lamY Y scope) body b (lam_gdX G hR) F (takes_of rfl rfl rfl rfl) h5 h7).pe
        unfold kParD at h6
        split at h6
        · simp only [Bool.and_eq_true] at h6
          have L := lamD_by (by rw [G.sc]; exact h6.2 : lamDB X.env.scope scope [] = true)
          cases own with
          | nil => exact snd_word (G.wo _ h1) (gli_ok G h3) h4 L G.ndX (fun a ha => by cases ha) (fun pins σ H s I hT => lam_eval0 I TB hcode hm hu hT (L.has I.ok)) G.room body_
          | cons _ _ => cases h6.1
        · simp only [Bool.and_eq_true] at h6
          have L := lamD_by (by rw [G.sc]; exact h6.2 : lamDB X.env.scope scope _ = true)
          obtain ⟨h6, _⟩ := h6
          split at h6
          · rename_i i
            exact snd_word (G.wo _ h1) (gli_ok G h3) h4 L G.ndX (fun a ha => ⟨i, List.mem_cons_self .., by rw [List.mem_singleton.mp ha]; exact N_ok G (of_decide_eq_true h6)⟩) (fun pins σ H s I hT => lam_eval1 I TB hcode hm hu hT (L.has I.ok)) G.room body_
          · cases h6
        · cases h6
  · cases h
theorem kLam_ok (hrd : ∀ d, Hr C Γ nm gn r n d) (G : Gd C Γ gn X Y d) (F : Fx C Γ nm X n d) {p : Nat} {b : Ex} {l : Expr} (h : kLam r Y p b l = true) : ∃ params body scope lpos a, l = .Lambda params body scope lpos ∧ Lm X C params body scope a p ∧
    ∀ (d' : Nat), d = d' + 3 → ∀ (f c' : Addr) (A : Around) (outer : List Env) (s2 s : Shared) (H : Hp), Room (d' + 2) (A.deeper (LamX.lamEnv X scope s2.heap.objs.size f c')) → PE (LamX.lamCx X A outer s H (fun _ _ _ => False) scope f c').nox body (tG X.K C fun σ m => (ev Γ n).e d' b σ m) := by
  unfold kLam at h
  split at h
  · rename_i a _ _ body scope lpos
    simp only [Bool.and_eq_true, decide_eq_true_eq] at h
    obtain ⟨⟨⟨h1, h2⟩, h3⟩, h4⟩ := h
    refine ⟨_, body, scope, lpos, a, rfl, ⟨G.lam h1, lam1_by (by rw [G.sc]; exact h3), G.ndX, N_ok G h2, rfl, fun u q cl pm cv ctv => bind1⟩, fun d' hd f c' A outer s2 s H hR => ?_⟩
    subst hd
    exact (hrd d' (LamX.lamCx X A outer s H (fun _ _ _ => False) scope f c').nox (lamY Y scope) body b (lam_gd G ⟨hR.hd, hR.dp, hR.un⟩) F h4).pe
  · cases h
theorem kKey_ok (hrd : ∀ d, Hr C Γ nm gn r n d) (G : Gd C Γ gn X Y d) (F : Fx C Γ nm X n d) {a : Ex} {p : Nat} {b : Ex} {e : Expr} (h : kKey r Y "sorted" a p b e = true) : Snd X C e (fun σ m => REbind ((ev Γ n).e d a σ m) fun x m1 => getL m1 x fun _ xs => sortKW Γ (ev Γ n) d p b σ xs m1) := by
  unfold kKey at h
  split at h
  · simp only [Bool.and_eq_true, decide_eq_true_eq] at h
    obtain ⟨⟨⟨⟨rfl, h2⟩, rfl⟩, h4⟩, h5⟩ := h
    obtain ⟨params, body, scope, lpos, pa, rfl, lm, hb⟩ := kLam_ok hrd G F h5
    exact snd_sortK G.bl.rng G.calm G.room (gli_ok G h2) (blt_ok G (by decide)) lm (hrd d X Y _ a G F h4) hb
  · cases h
theorem kMin_ok (hrd : ∀ d, Hr C Γ nm gn r n d) (G : Gd C Γ gn X Y d) (F : Fx C Γ nm X n d) {a : Ex} {p : Nat} {b : Ex} {e : Expr} (h : kKey r Y "min" a p b e = true) : Snd X C e (fun σ m => REbind ((ev Γ n).e d a σ m) fun x m1 => getL m1 x fun _ xs => minKW Γ (ev Γ n) d p b σ xs m1) := by
  unfold kKey at h
  split at h
  · simp only [Bool.and_eq_true, decide_eq_true_eq] at h
    obtain ⟨⟨⟨⟨rfl, h2⟩, rfl⟩, h4⟩, h5⟩ := h
    obtain ⟨params, body, scope, lpos, pa, rfl, lm, hb⟩ := kLam_ok hrd G F h5
    exact snd_minK G.bl.rng G.calm G.room (gli_ok G h2) (blt_ok G (by decide)) lm (hrd d X Y _ a G F h4) hb
  · cases h
theorem kP_ok (hr : Hr C Γ nm gn r n d) (G : Gd C Γ gn X Y d) (F : Fx C Γ nm X n d) : ∀ {es : List Expr} {l : List (Bool × Ex)}, kP r Y es l = true → SndP X C es (fun σ m => evS (ev Γ n) d σ l m)
  | [], [], _ => sndp_nil
  | [], _ :: _, h => by unfold kP at h; cases h
  | e :: es, [], h => by cases e <;> (unfold kP at h; cases h)
  | e :: es, (b, x) :: xs, h => by
    cases e with
    | Starred a p =>
      unfold kP at h
      simp only [Bool.and_eq_true] at h
      obtain ⟨⟨h1, h2⟩, h3⟩ := h
      have h1 : b = true := h1
      subst h1
      exact sndp_star (hr X Y a x G F h2) (kP_ok hr G F h3)
    | _ =>
      unfold kP at h
      simp only [Bool.and_eq_true, Bool.not_eq_true'] at h
      obtain ⟨⟨h1, h2⟩, h3⟩ := h
      have h1 : b = false := h1
      subst h1
      exact sndp_one (hr X Y _ x G F h2) (kP_ok hr G F h3)
theorem kPs_ok (hr : Hr C Γ nm gn r n d) (G : Gd C Γ gn X Y d) (F : Fx C Γ nm X n d) {pos : Pos} : ∀ {ks : List (Option Expr)} {vs : List Expr} {l : List (Ex × Ex)}, kPs r Y ks vs l = true → SndPs X C pos ks vs (fun σ m => evL2 (ev Γ n) d σ l m)
  | [], [], [], _ => sndps_nil
  | some k :: ks, v :: vs, p :: ps, h => by
    unfold kPs at h
    simp only [Bool.and_eq_true] at h
    exact sndps_cons (hr X Y k p.1 G F h.1) (hr X Y v p.2 G F h.2.1) (kPs_ok hr G F h.2.2)
  | [], [], _ :: _, h => by cases h
  | [], _ :: _, _, h => by cases h
  | none :: _, _, _, h => by cases h
  | some _ :: _, [], _, h => by cases h
  | some _ :: _, _ :: _, [], h => by cases h
theorem kKeyR_ok (hrd : ∀ d, Hr C Γ nm gn r n d) (hzero : ∀ a, isZero a = true → ∀ d, Zero fun σ m => (ev Γ n).e d a σ m) (G : Gd C Γ gn X Y d) (F : Fx C Γ nm X n d) {lo hi : Ex} {p : Nat} {b : Ex} {e : Expr} (h : kKeyR r Y lo hi p b e = true) :
    Snd X C e (fun σ m => REbind ((ev Γ n).e d lo σ m) fun x m1 => REbind ((ev Γ n).e d hi σ m1) fun y m2 => rngOf x y fun i k => sortKW Γ (ev Γ n) d p b σ (rngL i k) m2) := by
  unfold kKeyR at h
  split at h
  · simp only [Bool.and_eq_true, decide_eq_true_eq] at h
    obtain ⟨⟨⟨⟨⟨⟨⟨rfl, h2⟩, rfl⟩, rfl⟩, h3⟩, h4⟩, h5⟩, h6⟩ := h
    obtain ⟨params, body, scope, lpos, pa, rfl, lm, hb⟩ := kLam_ok hrd G F h6
    exact snd_sortKR1 G.bl.rng G.calm G.room (gli_ok G h2) (blt_ok G (by decide)) (gli_ok G h3) (blt_ok G (by decide)) lm (hzero lo h4 d) (hrd d X Y _ hi G F h5) hb
  · simp only [Bool.and_eq_true, decide_eq_true_eq] at h
    obtain ⟨⟨⟨⟨⟨⟨⟨rfl, h2⟩, rfl⟩, rfl⟩, h3⟩, h4⟩, h5⟩, h6⟩ := h
    obtain ⟨params, body, scope, lpos, pa, rfl, lm, hb⟩ := kLam_ok hrd G F h6
    exact snd_sortKR2 G.bl.rng G.calm G.room (gli_ok G h2) (blt_ok G (by decide)) (gli_ok G h3) (blt_ok G (by decide)) lm (hrd d X Y _ lo G F h4) (hrd d X Y _ hi G F h5) hb
  · cases h
theorem kB1_ok (hr : Hr C Γ nm gn r n d) (G : Gd C Γ gn X Y d) (F : Fx C Γ nm X n d) {o : B1} {a : Ex} {e : Expr} (h : kB1 r Y o a e = true) : Snd X C e (fun σ m => REbind ((ev Γ n).e d a σ m) fun x m1 => b1W Γ o x m1) := by
  have c1 : ∀ {name : Str} {id : String} {f : W → M → RE W}, kCall1 r Y name a e = true → name ∈ bltN → CallR X (.builtin id) (rB X.K C f) → bootBuiltins name = some (.builtin id) → name ≠ "__name__" → (name == ("__debug__" : Str)) = false → Snd X C e (fun σ m => REbind ((ev Γ n).e d a σ m) fun x m1 => f x m1) := fun h hb hc hv hn hd => by
    obtain ⟨p, x, pos, rfl, h1, h2⟩ := kCall1_inv h
    exact snd_callB hc (gli_ok G h1) (blt_ok G hb) hv hn hd (hr X Y x a G F h2)
  have cT : ∀ {name : Str} {id : String} {f : W → M → RE W}, kCall1 r Y name a e = true → name ∈ bltN → CallR X (.type id) (rB X.K C f) → bootBuiltins name = some (.type id) → name ≠ "__name__" → (name == ("__debug__" : Str)) = false → Snd X C e (fun σ m => REbind ((ev Γ n).e d a σ m) fun x m1 => f x m1) := fun h hb hc hv hn hd => by
    obtain ⟨p, x, pos, rfl, h1, h2⟩ := kCall1_inv h
    exact snd_callTy hc (gli_ok G h1) (blt_ok G hb) hv hn hd (hr X Y x a G F h2)
  have ci : ∀ {name : Str} {id : String} {f : Nat → Bool}, kIsa r Y name a e = true → name ∈ bltN → IsaOk id f → bootBuiltins name = some (.type id) → name ≠ "__name__" → (name == ("__debug__" : Str)) = false → Snd X C e (fun σ m => REbind ((ev Γ n).e d a σ m) fun x m1 => isW f x m1) := fun h hb hc hv hn hd => by
    obtain ⟨p, q, x, pos, rfl, h1, h2, h3⟩ := kIsa_inv h
    exact snd_isa hc (gli_ok G h1) (blt_ok G (by decide)) (gli_ok G h2) (blt_ok G hb) hv hn hd (hr X Y x a G F h3)
  cases o with
  | len => exact c1 (f := qLen Γ) h (by decide) len_ok boot_lenB (by decide) (by decide)
  | all => exact c1 (f := qAll Γ) h (by decide) (all_ok G.calm) boot_all (by decide) (by decide)
  | any => exact c1 (f := qAny Γ) h (by decide) (any_ok G.calm) boot_any (by decide) (by decide)
  | sum => exact c1 (f := qSum Γ) h (by decide) (sum_ok G.calm) boot_sum (by decide) (by decide)
  | sorted => exact c1 (f := qSorted Γ) h (by decide) (sorted_ok G.bl.rng G.hu G.calm) boot_sorted (by decide) (by decide)
  | tuple => exact cT (f := qTuple Γ) h (by decide) tuple_ok boot_tupleT (by decide) (by decide)
  | list => exact cT (f := qList Γ) h (by decide) list_ok boot_listT (by decide) (by decide)
  | int => exact cT (f := qInt Γ) h (by decide) int_ok boot_intT (by decide) (by decide)
  | abs => exact c1 (f := qAbs Γ) h (by decide) (abs_ok G.bl.rng) boot_abs (by decide) (by decide)
  | min => exact c1 (f := qMin Γ) h (by decide) (min_ok G.bl.rng G.hu G.calm) boot_min (by decide) (by decide)
  | max => exact c1 (f := qMax Γ) h (by decide) (max_ok G.bl.rng G.hu G.calm) boot_max (by decide) (by decide)
  | isInt => exact ci (f := tInt) h (by decide) isa_int boot_intT (by decide) (by decide)
  | isBool => exact ci (f := Nat.beq 1) h (by decide) isa_bool boot_boolT (by decide) (by decide)
  | isTuple => exact ci (f := Nat.beq 4) h (by decide) isa_tuple boot_tupleT (by decide) (by decide)
  | isStr => exact ci (f := Nat.beq 3) h (by decide) isa_str boot_strT (by decide) (by decide)
  | isList => exact ci (f := Nat.beq 5) h (by decide) isa_list boot_listT (by decide) (by decide)
  | pop =>
    obtain ⟨o, apos, cpos, rfl, h1, h2, h3⟩ := kM0_inv h
    exact snd_m0 (f := qPop Γ) PySem.F.slot_list_pop PySem.F.type_list_pop pop_ok (fun K ι H m w Q v S r p => by
      obtain ⟨n, xs, rfl, hm, _⟩ := getL_inv p
      cases r with
      | ref hn => obtain ⟨vs, f2, _⟩ := lst_at S hn hm; exact .inl ⟨rfl, vs, SqL.of f2⟩) h1 h2 (hr X Y o a G F h3)
  | sumVals =>
    obtain ⟨p, o, apos, cpos, pos, rfl, h1, h2, h3, h4⟩ := kOn_inv h
    exact snd_sumVals (Γ := Γ) G.calm (gli_ok G h1) (blt_ok G (by decide)) h2 h3 (hr X Y o a G F h4)
  | values =>
    obtain ⟨p, o, apos, cpos, pos, rfl, h1, h2, h3, h4⟩ := kOn_inv h
    exact snd_values (Γ := Γ) G.calm (gli_ok G h1) (blt_ok G (by decide)) h2 h3 (hr X Y o a G F h4)
  | revL =>
    unfold kB1 at h
    dsimp only at h
    split at h
    · exact snd_revL (Γ := Γ) (hr X Y _ a G F h)
    · cases h
  | dcopy => exact cT (f := qDcopy Γ) h (by decide) dcopy_ok PyProof.Rows.boot_dict (by decide) (by decide)
  | sortItems =>
    obtain ⟨p, o, apos, cpos, pos, rfl, h1, h2, h3, h4⟩ := kOn_inv h
    exact snd_sortItems (Γ := Γ) G.bl.rng G.calm G.hu (gli_ok G h1) (blt_ok G (by decide)) h2 h3 (hr X Y o a G F h4)
  | sortedSet =>
    obtain ⟨p, x, q, ppos, pos, rfl, h1, h2, h3⟩ := kSet_inv h
    exact snd_sortedSet (Γ := Γ) G.bl.rng G.calm (gli_ok G h1) (blt_ok G (by decide)) (gli_ok G h2) (blt_ok G (by decide)) (hr X Y x a G F h3)
  | sortedSetT =>
    obtain ⟨p, x, q, ppos, pos, rfl, h1, h2, h3⟩ := kSet_inv h
    exact snd_sortedSetT (Γ := Γ) G.bl.rng G.calm G.hu (gli_ok G h1) (blt_ok G (by decide)) (gli_ok G h2) (blt_ok G (by decide)) (hr X Y x a G F h3)
  | lenSet =>
    obtain ⟨p, x, q, ppos, pos, rfl, h1, h2, h3⟩ := kSet_inv h
    exact snd_lenSet (Γ := Γ) G.bl.rng G.calm (gli_ok G h1) (blt_ok G (by decide)) (gli_ok G h2) (blt_ok G (by decide)) (hr X Y x a G F h3)
  | _ => cases h
theorem kM2_inv {name : Str} {a b c : Ex} {e : Expr} (h : kM2 r Y name a b c e = true) : ∃ o x y apos cpos, e = .Call (.Attribute o name apos) [x, y] [] cpos ∧ noBase o = true ∧ (apos.endLine == cpos.line) = true ∧ r Y o a = true ∧ r Y x b = true ∧ r Y y c = true := by
  unfold kM2 at h
  split at h
  · simp only [Bool.and_eq_true, decide_eq_true_eq] at h
    obtain ⟨⟨⟨⟨⟨rfl, h1⟩, h2⟩, h3⟩, h4⟩, h5⟩ := h
    exact ⟨_, _, _, _, _, rfl, h1, h2, h3, h4, h5⟩
  · cases h
theorem kB2_ok (hr : Hr C Γ nm gn r n d) (G : Gd C Γ gn X Y d) (F : Fx C Γ nm X n d) {o : B2} {a b : Ex} {e : Expr} (h : kB2 r Y o a b e = true) : Snd X C e (fun σ m => REbind ((ev Γ n).e d a σ m) fun x m1 => ifB (preB2 o m1 x) (REbind ((ev Γ n).e d b σ m1) fun y m2 => b2W Γ o x y m2) (.er (.stuck 52))) := by
  cases o with
  | min =>
    obtain ⟨p, x, y, pos, rfl, h1, h2, h3⟩ := kCall2_inv h
    exact snd_callB2 (f := rMin Γ) (min2_ok G.bl.rng G.calm) (gli_ok G h1) (blt_ok G (by decide)) boot_min (by decide) (by decide) (hr X Y x a G F h2) (hr X Y y b G F h3)
  | max =>
    obtain ⟨p, x, y, pos, rfl, h1, h2, h3⟩ := kCall2_inv h
    exact snd_callB2 (f := rMax Γ) (max2_ok G.bl.rng G.calm) (gli_ok G h1) (blt_ok G (by decide)) boot_max (by decide) (by decide) (hr X Y x a G F h2) (hr X Y y b G F h3)
  | append =>
    obtain ⟨o, x, apos, cpos, rfl, h1, h2, h3, h4⟩ := kM1_inv h
    exact snd_m1 (f := rAppend Γ) (pre := fun m w => isLst m w) PySem.F.plainAttrs_list PySem.F.slot_list_append PySem.F.type_list_append append_ok (fun K ι H m w v S r p => isLst_ty S r p) h1 h2 (hr X Y o a G F h3) (hr X Y x b G F h4)
  | extend =>
    obtain ⟨o, x, apos, cpos, rfl, h1, h2, h3, h4⟩ := kM1_inv h
    exact snd_m1 (f := rExtend Γ) (pre := fun m w => isLst m w) PySem.F.plainAttrs_list PySem.F.slot_list_extend PySem.F.type_list_extend extend_ok (fun K ι H m w v S r p => isLst_ty S r p) h1 h2 (hr X Y o a G F h3) (hr X Y x b G F h4)
  | remove =>
    obtain ⟨o, x, apos, cpos, rfl, h1, h2, h3, h4⟩ := kM1_inv h
    exact snd_m1 (f := rRemove Γ) (pre := fun m w => isLst m w) PySem.F.plainAttrs_list PySem.F.slot_list_remove PySem.F.type_list_remove (remove_ok G.bl.rng G.hu) (fun K ι H m w v S r p => isLst_ty S r p) h1 h2 (hr X Y o a G F h3) (hr X Y x b G F h4)
  | popAt =>
    obtain ⟨o, x, apos, cpos, rfl, h1, h2, h3, h4⟩ := kM1_inv h
    exact snd_m1 (f := rPopAt Γ) (pre := fun m w => isLst m w) PySem.F.plainAttrs_list PySem.F.slot_list_pop PySem.F.type_list_pop popAt_ok (fun K ι H m w v S r p => isLst_ty S r p) h1 h2 (hr X Y o a G F h3) (hr X Y x b G F h4)
  | index =>
    obtain ⟨o, x, apos, cpos, rfl, h1, h2, h3, h4⟩ := kM1_inv h
    exact snd_m1 (f := rIndex Γ) (pre := fun m w => isLst m w) PySem.F.plainAttrs_list PySem.F.slot_list_index PySem.F.type_list_index (index_ok G.bl.rng G.hu) (fun K ι H m w v S r p => isLst_ty S r p) h1 h2 (hr X Y o a G F h3) (hr X Y x b G F h4)
  | count =>
    obtain ⟨o, x, apos, cpos, rfl, h1, h2, h3, h4⟩ := kM1_inv h
    exact snd_m1 (f := rCount Γ) (pre := fun m w => isLst m w) PySem.F.plainAttrs_list PySem.F.slot_list_count PySem.F.type_list_count (count_ok G.bl.rng G.hu) (fun K ι H m w v S r p => isLst_ty S r p) h1 h2 (hr X Y o a G F h3) (hr X Y x b G F h4)
  | get =>
    obtain ⟨o, x, apos, cpos, rfl, h1, h2, h3, h4⟩ := kM1_inv h
    exact snd_get1 (Γ := Γ) G.bl.rng G.hu h1 h2 (hr X Y o a G F h3) (hr X Y x b G F h4)
/-! ### targets, what is walked, comprehensions -/
theorem kT_ok (hr : Hr C Γ nm gn r n d) (G : Gd C Γ gn X Y d) (F : Fx C Γ nm X n d) : ∀ (f g : Nat) {e : Expr} {t : Tg}, kTg r Y f e t = true → SndG X C e (slT f t) (fun w σ m => tgN Γ (ev Γ n) d g t w σ m)
  | 0, g, e, t, h => by cases h
  | f + 1, 0, e, t, h => by
    have nice : TNice e := by
      unfold kTg at h
      intro rest env
      cases t with
      | nm i => dsimp only at h; split at h <;> first | rfl | cases h
      | tp l => dsimp only at h; split at h <;> first | rfl | cases h
      | ix a b => dsimp only at h; split at h <;> first | rfl | cases h
      | fld a b => dsimp only at h; split at h <;> first | rfl | cases h
    exact ⟨nice, ⟨fun pins s σ H v u Q I r ⟨ι, σ', m, w, _, _, _, p⟩ => p.elim⟩⟩
  | f + 1, g + 1, e, t, h => by
    unfold kTg at h
    cases t with
    | nm i =>
      dsimp only at h
      split at h
      · simp only [Bool.and_eq_true, decide_eq_true_eq] at h
        obtain ⟨h2, h3⟩ := stB_ok G h.2
        exact sndg_nm G.ndX (N_ok G h.1) h2 h3
      · cases h
    | tp l =>
      dsimp only at h
      split at h
      · have key : ∀ (es : List Expr) (l : List Tg), kTs (kTg r Y f) es l = true → es.length = l.length ∧ SndGs X C es ((l.map (slT f)).flatten) (fun ws σ m => tgAll (tgN Γ (ev Γ n) d g) l ws σ m) := by
          intro es
          induction es with
          | nil =>
            intro l h
            cases l with
            | nil => exact ⟨rfl, sndgs_nil⟩
            | cons _ _ => cases h
          | cons e es ih =>
            intro l h
            cases l with
            | nil => cases h
            | cons t l =>
              unfold kTs at h
              rw [Bool.and_eq_true] at h
              obtain ⟨h1, h2⟩ := ih l h.2
              exact ⟨by rw [List.length_cons, List.length_cons, h1], sndgs_cons (kT_ok hr G F f g h.1) h2⟩
        obtain ⟨hl, q⟩ := key _ l h
        have q2 := sndg_tp (k := by assumption) (pos := by assumption) G.calm q
        rw [hl] at q2
        exact q2
      · cases h
    | ix a b =>
      dsimp only at h
      split at h
      · rw [Bool.and_eq_true] at h
        exact sndg_ix G.bl.rng G.hu (hr X Y _ a G F h.1) (hr X Y _ b G F h.2)
      · cases h
    | fld a b =>
      dsimp only at h
      split at h
      · simp only [Bool.and_eq_true, decide_eq_true_eq] at h
        exact sndg_fld G.bl.kl (by rw [show C.fl = Y.ci.fl by rw [← G.ci]; rfl]; exact h.1) (hr X Y _ a G F h.2)
      · cases h
theorem zero_cw : Zero (fun σ m => (ev Γ n).e d (.cw (.int 0)) σ m) := fun σ m => by
  cases n with
  | zero => exact .inl ⟨_, rfl⟩
  | succ n => exact .inr rfl
theorem kI_ok (hr : Hr C Γ nm gn r n d) (G : Gd C Γ gn X Y d) (F : Fx C Γ nm X n d) {tg iter : Expr} {it : It} (h : kI r Y tg iter it = true) : SndI X C tg iter (fun σ m => evIt Γ (ev Γ n) d it σ m) := by
  unfold kI at h
  cases it with
  | seq e =>
    by_cases hv : ∃ i, e = .vr i
    · obtain ⟨i, rfl⟩ := hv
      cases n with
      | zero => exact sndi_seq (hr X Y iter _ G F h)
      | succ n => exact sndi_var (i := i) (hr X Y iter _ G F h)
    · have e1 : isVr e = false := by
        cases e with
        | vr i => exact (hv ⟨i, rfl⟩).elim
        | _ => rfl
      have q := sndi_seq (tg := tg) (hr X Y iter e G F h)
      have e2 : (fun σ m => evIt Γ (ev Γ n) d (.seq e) σ m) = fun σ m => REbind ((ev Γ n).e d e σ m) fun w m1 => liftI (seqIv m1 w) m1 := by
        funext σ m
        show (REbind ((ev Γ n).e d e σ m) fun w m1 => liftI (ifB (isVr e) (seqIvD m1 w) (seqIv m1 w)) m1) = _
        rw [e1]; rfl
      rw [e2]
      exact q
  | rng a b =>
    dsimp only at h
    split at h
    · simp only [Bool.and_eq_true, decide_eq_true_eq] at h
      obtain ⟨⟨⟨rfl, h2⟩, h3⟩, h4⟩ := h
      split at h3
      · exact sndi_rng1 (gli_ok G h2) (blt_ok G (by decide)) zero_cw (hr X Y _ b G F h4)
      · cases h3
    · simp only [Bool.and_eq_true, decide_eq_true_eq] at h
      obtain ⟨⟨⟨rfl, h2⟩, h3⟩, h4⟩ := h
      exact sndi_rng2 (gli_ok G h2) (blt_ok G (by decide)) (hr X Y _ a G F h3) (hr X Y _ b G F h4)
    · cases h
  | enum e =>
    dsimp only at h
    split at h
    · obtain ⟨p, x, pos, rfl, h1, h2⟩ := kCall1_inv h
      exact sndi_enum (gli_ok G h1) (blt_ok G (by decide)) (hr X Y x e G F h2)
    · cases h
  | zip a b =>
    dsimp only at h
    split at h
    · obtain ⟨p, x, y, pos, rfl, h1, h2, h3⟩ := kCall2_inv h
      exact sndi_zip (gli_ok G h1) (blt_ok G (by decide)) (hr X Y x a G F h2) (hr X Y y b G F h3)
    · cases h
  | items e =>
    dsimp only at h
    split at h
    · obtain ⟨o, apos, cpos, rfl, h1, h2, h3⟩ := kM0_inv h
      exact sndi_items h1 h2 (hr X Y o e G F h3)
    · cases h
  | vals e =>
    obtain ⟨o, apos, cpos, rfl, h1, h2, h3⟩ := kM0_inv (name := "values") h
    exact sndi_vals h1 h2 (hr X Y o e G F h3)
theorem kIfs_ok (hr : Hr C Γ nm gn r n d) (G : Gd C Γ gn X Y d) (F : Fx C Γ nm X n d) {fs : List Expr} {l : List Ex} (h : kIfs r Y fs l = true) : SndT X C fs (fun σ m => evAn (ev Γ n) d σ l m) := by
  unfold kIfs at h
  split at h
  · exact sndt_nil
  · exact sndt_one (hr X Y _ _ G F h)
  · cases h
theorem blk_ok (G : Gd C Γ gn X Y d) (s : Shared) (H : Hp) (scope : Scope) (c : Addr) (cl : List (Str × Addr)) (fp : List Addr) : Gd C Γ gn (X.blk s H scope (compEnvC scope cl c X.env) fp) (blkY Y scope) d := by
  refine ⟨G.N, ?_, rfl, G.calm, G.nd, (fun x h => by cases h), (fun c x h => by cases c <;> cases h), G.room, G.bl, (fun z => by cases z), G.ci⟩
  show relabel scope X.env = _
  unfold relabel Env.kindOf
  rw [G.sc]
  rfl
theorem ownP_map (own : List Nat) : (ownP Y own).map (·.2) = own := by
  unfold ownP
  rw [List.map_map]
  exact List.map_id own
/-- what a comprehension's check gives -/
structure KC (C : Cn) (Γ : Pg) (nm : List (Str × Nat)) (gn : List Str) (X : Cx) (n d : Nat) (e : Ex) (tg : Tg) (it : It) (ifs : List Ex) (own : List Nat) (elt t i : Expr) (fs : List Expr) (scope : Scope) (ownp : List (Str × Nat)) : Prop where
  hi : SndI X C t i (fun σ m => evIt Γ (ev Γ n) d it σ m)
  ok : BlkOk X.N X.env.scope scope ownp
  eo : ownp.map (·.2) = own
  hts : ∀ i ∈ slT 6 tg, i ∈ ownp.map (·.2)
  hg : ∀ (s : Shared) (H : Hp) (c : Addr) (cl : List (Str × Addr)) (fp : List Addr), SndG (X.blk s H scope (compEnvC scope cl c X.env) fp) C t (slT 6 tg) (fun w σ m => tgW Γ (ev Γ n) d tg w σ m)
  ht : ∀ (s : Shared) (H : Hp) (c : Addr) (cl : List (Str × Addr)) (fp : List Addr), SndT (X.blk s H scope (compEnvC scope cl c X.env) fp) C fs (fun σ m => evAn (ev Γ n) d σ ifs m)
  he : ∀ (s : Shared) (H : Hp) (c : Addr) (cl : List (Str × Addr)) (fp : List Addr), Snd (X.blk s H scope (compEnvC scope cl c X.env) fp) C elt (fun σ m => (ev Γ n).e d e σ m)
theorem kComp_ok (hr : Hr C Γ nm gn r n d) (G : Gd C Γ gn X Y d) (F : Fx C Γ nm X n d) {e : Ex} {tg : Tg} {it : It} {ifs : List Ex} {own : List Nat} {E : Expr} (h : kComp r Y e tg it ifs own E = true) :
    ∃ elt t i fs scope pos ownp, E = .ListComp elt [⟨t, i, fs, 0⟩] scope pos ∧ KC C Γ nm gn X n d e tg it ifs own elt t i fs scope ownp := by
  unfold kComp at h
  split at h
  · simp only [Bool.and_eq_true, decide_eq_true_eq] at h
    obtain ⟨⟨⟨⟨⟨⟨h0, h1⟩, h2⟩, h3⟩, h4⟩, h5⟩, h6⟩ := h
    subst h0
    refine ⟨_, _, _, _, _, _, ownP Y own, rfl, kI_ok hr G F h1, ?_, ownP_map own, fun i hi => ?_, fun s H c cl fp => kT_ok hr (blk_ok G s H _ c cl fp) F 6 6 h3, fun s H c cl fp => kIfs_ok hr (blk_ok G s H _ c cl fp) F h5, fun s H c cl fp => hr _ _ _ _ (blk_ok G s H _ c cl fp) F h6⟩
    · rw [G.N, G.sc]; exact blkOk_by h2
    · rw [ownP_map]
      have := List.all_eq_true.mp h4 i hi
      exact of_decide_eq_true this
  · cases h
theorem kComp2_set (hr : Hr C Γ nm gn r n d) (G : Gd C Γ gn X Y d) (F : Fx C Γ nm X n d) {e : Ex} {tg : Tg} {it : It} {ifs : List Ex} {tg1 : Tg} {it1 : It} {ifs1 : List Ex} {own own1 : List Nat} {E : Expr} (h : kComp2 r Y e tg it ifs tg1 it1 ifs1 own own1 E = true) :
    Snd X C E (fun σ m => evComp2 Γ (ev Γ n) d e tg it ifs tg1 it1 ifs1 own own1 σ m) ∧ ∀ (i : Nat) (y : Str) (py spos : Pos), X.N[i]? = some y → X.env.scope.names.lookup y = some .local → swapsWith E (some (.Name y py)) spos.line X.env = pure true → PS X (.Assign [.Name y py] E spos) (tAsg (tG X.K C (fun σ m => evComp2 Γ (ev Γ n) d e tg it ifs tg1 it1 ifs1 own own1 σ m)) (gName i)) := by
  unfold kComp2 at h
  split at h
  · rename_i elt t i fs a t1 i1 fs1 a1 scope pos
    simp only [Bool.and_eq_true, decide_eq_true_eq] at h
    obtain ⟨⟨⟨⟨⟨⟨⟨⟨⟨⟨⟨⟨h0, h01⟩, h1⟩, h2⟩, h3⟩, h4⟩, h5⟩, h6⟩, h7⟩, h8⟩, h9⟩, h10⟩, h11⟩ := h
    subst h0 h01
    have inO : ∀ {l : List Nat} {o : List Nat}, (l.all fun i => decide (i ∈ o)) = true → ∀ i ∈ l, i ∈ o := fun h i hi => of_decide_eq_true (List.all_eq_true.mp h i hi)
    refine ⟨?_, fun ix y py spos hy hyl hsw => ?_⟩
    · have q := snd_lc2 (pos := pos) (own := ownP Y own) (own1 := own1) (ts := slT 6 tg) (ts1 := slT 6 tg1) G.calm G.ndX (kI_ok hr G F h1) (by rw [G.N, G.sc]; exact blkOk_by h2)
        (by rw [ownP_map]; exact inO h6) (by rw [ownP_map]; exact inO h4) (inO h9)
        (fun s H c cl fp => kT_ok hr (blk_ok G s H _ c cl fp) F 6 6 h3) (fun s H c cl fp => kIfs_ok hr (blk_ok G s H _ c cl fp) F h5) (fun s H c cl fp => kI_ok hr (blk_ok G s H _ c cl fp) F h7)
        (fun s H c cl fp => kT_ok hr (blk_ok G s H _ c cl fp) F 6 6 h8) (fun s H c cl fp => kIfs_ok hr (blk_ok G s H _ c cl fp) F h10) (fun s H c cl fp => hr _ _ _ _ (blk_ok G s H _ c cl fp) F h11)
      rw [ownP_map] at q
      exact q
    · have q := ps_lc2 (pos := pos) (spos := spos) (py := py) (i := ix) (own := ownP Y own) (own1 := own1) (ts := slT 6 tg) (ts1 := slT 6 tg1) G.calm G.ndX hy hyl hsw (kI_ok hr G F h1) (by rw [G.N, G.sc]; exact blkOk_by h2)
        (by rw [ownP_map]; exact inO h6) (by rw [ownP_map]; exact inO h4) (inO h9)
        (fun s H c cl fp => kT_ok hr (blk_ok G s H _ c cl fp) F 6 6 h3) (fun s H c cl fp => kIfs_ok hr (blk_ok G s H _ c cl fp) F h5) (fun s H c cl fp => kI_ok hr (blk_ok G s H _ c cl fp) F h7)
        (fun s H c cl fp => kT_ok hr (blk_ok G s H _ c cl fp) F 6 6 h8) (fun s H c cl fp => kIfs_ok hr (blk_ok G s H _ c cl fp) F h10) (fun s H c cl fp => hr _ _ _ _ (blk_ok G s H _ c cl fp) F h11)
      rw [ownP_map] at q
      exact q
  · cases h
theorem kComp2_ok (hr : Hr C Γ nm gn r n d) (G : Gd C Γ gn X Y d) (F : Fx C Γ nm X n d) {e : Ex} {tg : Tg} {it : It} {ifs : List Ex} {tg1 : Tg} {it1 : It} {ifs1 : List Ex} {own own1 : List Nat} {E : Expr} (h : kComp2 r Y e tg it ifs tg1 it1 ifs1 own own1 E = true) :
    Snd X C E (fun σ m => evComp2 Γ (ev Γ n) d e tg it ifs tg1 it1 ifs1 own own1 σ m) := (kComp2_set hr G F h).1
theorem KC.snd {e : Ex} {tg : Tg} {it : It} {ifs : List Ex} {own : List Nat} {elt t i : Expr} {fs : List Expr} {scope : Scope} {ownp : List (Str × Nat)} {pos : Pos} (k : KC C Γ nm gn X n d e tg it ifs own elt t i fs scope ownp) (G : Gd C Γ gn X Y d) :
    Snd X C (.ListComp elt [⟨t, i, fs, 0⟩] scope pos) (fun σ m => evComp Γ (ev Γ n) d e tg it ifs own σ m) := by
  have q := snd_lc (pos := pos) G.calm G.ndX k.hi k.ok k.hts k.hg k.ht k.he
  rw [k.eo] at q
  exact q
end
end
end Jw

/-! The check is sound: all expressions, statements, defs. -/
namespace Jw
open PySem PySem.Spec PyProof.Rows L2
noncomputable section
section
variable {C : Cn} {Γ : Pg} {nm : List (Str × Nat)} {gn : List Str} {X : Cx} {Y : Sc} {d n : Nat} {r : Sc → Expr → Ex → Bool} {E : XK}
theorem kOpt_ok (hr : Hr C Γ nm gn r n d) (G : Gd C Γ gn X Y d) (F : Fx C Γ nm X n d) {o : Option Expr} {x : Option Ex} (h : kOpt r Y o x = true) : SndO X C o (fun σ m => evO (ev Γ n) d σ x m) := by
  unfold kOpt at h
  split at h
  · exact sndo_none
  · exact sndo_some (hr X Y _ _ G F h)
  · cases h
theorem isZero_ok {a : Ex} (h : isZero a = true) : a = .cw (.int 0) := by
  unfold isZero at h
  split at h
  · rfl
  · cases h
theorem kRng_inv {fn : Str} {a b : Ex} {e : Expr} (h : kRng r Y fn a b e = true) : (∃ p q x ppos pos, e = .Call (.Name fn p) [.Call (.Name "range" q) [x] [] ppos] [] pos ∧ gli Y fn = true ∧ gli Y "range" = true ∧ a = .cw (.int 0) ∧ r Y x b = true) ∨
    ∃ p q x y ppos pos, e = .Call (.Name fn p) [.Call (.Name "range" q) [x, y] [] ppos] [] pos ∧ gli Y fn = true ∧ gli Y "range" = true ∧ r Y x a = true ∧ r Y y b = true := by
  unfold kRng at h
  split at h
  · simp only [Bool.and_eq_true, decide_eq_true_eq] at h
    obtain ⟨⟨⟨⟨⟨rfl, h1⟩, rfl⟩, h2⟩, h3⟩, h4⟩ := h
    exact .inl ⟨_, _, _, _, _, rfl, h1, h2, isZero_ok h3, h4⟩
  · simp only [Bool.and_eq_true, decide_eq_true_eq] at h
    obtain ⟨⟨⟨⟨⟨rfl, h1⟩, rfl⟩, h2⟩, h3⟩, h4⟩ := h
    exact .inr ⟨_, _, _, _, _, _, rfl, h1, h2, h3, h4⟩
  · cases h
theorem callE_true {env : Env} {e : Expr} {x : Ex} (hc : isCallE x = true) (h : kE nm gn r Y e x = true) : ∀ w, isTrue e env w = (do let v ← w; standAt e.pos; holding [v] (truthy v)) := by
  unfold kE at h
  rw [Bool.and_eq_true] at h
  obtain ⟨hn, h⟩ := h
  cases x with
  | call f l =>
    dsimp only at h
    split at h
    · exact fun _ => rfl
    · exact fun _ => rfl
    · cases h
  | callV i l =>
    dsimp only at h
    split at h
    · exact fun _ => rfl
    · cases h
  | _ => cases hc
theorem kCallX_ok (hr : Hr C Γ nm gn r n d) (G : Gd C Γ gn X Y d) (F : Fx C Γ nm X n d) (tk : Takes X (fun cls d _ H => E cls d H)) {e : Expr} {x : Ex} (hc : isCallE x = true) (h : kE nm gn r Y e x = true) : SndX E X C e (fun σ m => stepE Γ (ev Γ n) d x σ m) := by
  unfold kE at h
  rw [Bool.and_eq_true] at h
  obtain ⟨hn, h⟩ := h
  cases x with
  | call f l =>
    dsimp only at h
    split at h
    · simp only [Bool.and_eq_true, decide_eq_true_eq] at h
      obtain ⟨⟨⟨h1, h2⟩, h3⟩, h4⟩ := h
      obtain ⟨fd, ps, FO, hm, hk, hb⟩ := (F n (Nat.le_refl n) d).2.1 f _ _ h1
      obtain ⟨q, _⟩ := kL_ok hr G F h4
      refine sndx_call FO G.room (gli_ok G h2) hm hk hb (okn_ok h3).1 q ?_ rfl tk
      cases l with
      | nil => cases h4
      | cons x l =>
        unfold kL at h4
        rw [Bool.and_eq_true] at h4
        exact (hr X Y _ x G F h4.1).nice
    · simp only [Bool.and_eq_true, decide_eq_true_eq] at h
      obtain ⟨⟨⟨h1, h2⟩, h3⟩, h4⟩ := h
      obtain ⟨fd, ps, FO, hm, hk, hb⟩ := (F n (Nat.le_refl n) d).2.1 f _ _ h1
      cases l with
      | nil => exact sndx_call0 FO G.room (gli_ok G h2) hm hk hb (okn_ok h3).1 tk
      | cons x l => cases h4
    · cases h
  | callV i l =>
    dsimp only at h
    split at h
    · simp only [Bool.and_eq_true, decide_eq_true_eq] at h
      obtain ⟨⟨⟨h1, h2⟩, h3⟩, h4⟩ := h
      obtain ⟨q, _⟩ := kL_ok hr G F h4
      refine sndx_callV (ar := Γ.ar) (gf := fun j ws m => callW Γ (ev Γ n) d j ws m) (k := d + 2) (fun j np hj => ?_) (N_ok G h1) (vis_ok G h2) (okn_ok h3).1 (okn_ok h3).2 G.room q ?_ tk
      · have Fn := F n (Nat.le_refl n) d
        rw [nth_eq, Fn.1, List.getElem?_map] at hj
        cases e1 : nm[j]? with
        | none => rw [e1] at hj; cases hj
        | some p =>
          obtain ⟨s, k⟩ := p
          rw [e1] at hj
          cases hj
          obtain ⟨fd, ps, FO, hm, hk, hb⟩ := Fn.2.1 j _ _ e1
          exact ⟨fd, ps, FO, hk, hb⟩
      · cases l with
        | nil => cases h4
        | cons x l =>
          unfold kL at h4
          rw [Bool.and_eq_true] at h4
          exact (hr X Y _ x G F h4.1).nice
    · cases h
  | _ => cases hc
theorem kE_ok (hr : Hr C Γ nm gn r n d) (hrd : ∀ d, Hr C Γ nm gn r n d) (hxd : ∀ d, HrX C Γ nm gn r n d) (G : Gd C Γ gn X Y d) (F : Fx C Γ nm X n d) {e : Expr} {x : Ex} (h : kE nm gn r Y e x = true) : Snd X C e (fun σ m => stepE Γ (ev Γ n) d x σ m) := by
  have h0 := h
  unfold kE at h
  rw [Bool.and_eq_true] at h
  obtain ⟨hn, h⟩ := h
  have nice := nice_of hn
  cases x with
  | vr i =>
    dsimp only at h
    split at h
    · simp only [Bool.and_eq_true, decide_eq_true_eq] at h
      obtain ⟨⟨h1, h2⟩, h3⟩ := h
      exact snd_vr (N_ok G h1) (vis_ok G h2) (okn_ok h3).1 (okn_ok h3).2
    · cases h
  | cw w =>
    dsimp only at h
    split at h
    · exact snd_non
    · have e := eq_of_beq h; subst e; exact snd_bl
    · have e := of_decide_eq_true h; subst e; exact snd_int
    · have e := of_decide_eq_true h; subst e; exact snd_str fun op => by cases op <;> rfl
    · cases h
  | gl j =>
    dsimp only at h
    split at h
    · simp only [Bool.and_eq_true, decide_eq_true_eq] at h
      obtain ⟨⟨h1, h2⟩, h3⟩ := h
      obtain ⟨u, w, v, h4, h5, h6⟩ := G.bl.gv j _ h1 |> fun ⟨u, w, h4, h5, v, h6, h7⟩ => (⟨u, w, v, h4, h5, h6, h7⟩ : ∃ u w v, X.mg _ = some u ∧ nth Γ.gv j = some w ∧ RelV v u ∧ ∀ H ι, RepV C (TT' X.K H) ι w v)
      exact snd_gl (gli_ok G h2) h4 h5 ⟨v, h6⟩ (okn_ok h3).1
    · cases h
  | bin o a b =>
    dsimp only at h
    split at h
    · simp only [Bool.and_eq_true, decide_eq_true_eq] at h
      obtain ⟨⟨rfl, h2⟩, h3⟩ := h
      exact snd_bin o (hr X Y _ a G F h2) (hr X Y _ b G F h3)
    · cases h
  | neg a =>
    dsimp only at h
    split at h
    · exact snd_neg (hr X Y _ a G F h)
    · cases h
  | cmp o a b =>
    dsimp only at h
    split at h
    · simp only [Bool.and_eq_true, decide_eq_true_eq] at h
      obtain ⟨⟨rfl, h2⟩, h3⟩ := h
      exact snd_cmp G.bl.rng G.hu o (hr X Y _ a G F h2) (hr X Y _ b G F h3)
    · cases h
  | ch2 o p a b c =>
    dsimp only at h
    split at h
    · simp only [Bool.and_eq_true, decide_eq_true_eq] at h
      obtain ⟨⟨⟨⟨rfl, rfl⟩, h2⟩, h3⟩, h4⟩ := h
      exact snd_ch2 G.bl.rng G.hu o p (hr X Y _ a G F h2) (hr X Y _ b G F h3) (hr X Y _ c G F h4)
    · cases h
  | ch3 o p q a b c e =>
    dsimp only at h
    split at h
    · simp only [Bool.and_eq_true, decide_eq_true_eq] at h
      obtain ⟨⟨⟨⟨⟨⟨rfl, rfl⟩, rfl⟩, h2⟩, h3⟩, h4⟩, h5⟩ := h
      exact snd_ch3 G.bl.rng G.hu o p q (hr X Y _ a G F h2) (hr X Y _ b G F h3) (hr X Y _ c G F h4) (hr X Y _ e G F h5)
    · cases h
  | isN a =>
    dsimp only at h
    split at h
    · exact snd_isN (hr X Y _ a G F h)
    · cases h
  | notN a =>
    dsimp only at h
    split at h
    · exact snd_notN (hr X Y _ a G F h)
    · cases h
  | isB k a =>
    dsimp only at h
    split at h
    · rw [Bool.and_eq_true] at h
      have e := eq_of_beq h.1
      subst e
      exact snd_isB _ (hr X Y _ a G F h.2)
    · cases h
  | notB k a =>
    dsimp only at h
    split at h
    · rw [Bool.and_eq_true] at h
      have e := eq_of_beq h.1
      subst e
      exact snd_notB _ (hr X Y _ a G F h.2)
    · cases h
  | no a =>
    dsimp only at h
    split at h
    · exact snd_no (hr X Y _ a G F h)
    · cases h
  | an l =>
    dsimp only at h
    split at h
    · rw [Bool.and_eq_true] at h
      obtain ⟨h1, h2⟩ := h
      cases l with
      | nil => cases h1
      | cons x l =>
        rename_i es pos
        cases es with
        | nil => cases h2
        | cons e es => exact (kAn_ok hr G F h2).snd
    · cases h
  | orr l =>
    dsimp only at h
    split at h
    · rw [Bool.and_eq_true] at h
      obtain ⟨h1, h2⟩ := h
      cases l with
      | nil => cases h1
      | cons x l =>
        rename_i es pos
        cases es with
        | nil => cases h2
        | cons e es => exact (kOr_ok hr G F h2).snd
    · cases h
  | ite c a b =>
    dsimp only at h
    split at h
    · simp only [Bool.and_eq_true] at h
      obtain ⟨⟨h1, h2⟩, h3⟩ := h
      exact snd_ite (hr X Y _ c G F h1) (hr X Y _ a G F h2) (hr X Y _ b G F h3)
    · cases h
  | tup l =>
    dsimp only at h
    split at h
    · exact snd_tup (kL_ok hr G F h).1
    · cases h
  | lst l =>
    dsimp only at h
    split at h
    · exact snd_lst (kL_ok hr G F h).1
    · cases h
  | ix a b =>
    dsimp only at h
    split at h
    · rw [Bool.and_eq_true] at h
      exact snd_ix G.bl.rng G.hu (hr X Y _ a G F h.1) (hr X Y _ b G F h.2)
    · cases h
  | sl a lo hi =>
    dsimp only at h
    split at h
    · simp only [Bool.and_eq_true] at h
      obtain ⟨⟨h1, h2⟩, h3⟩ := h
      exact snd_sl (hr X Y _ a G F h1) (kOpt_ok hr G F h2) (kOpt_ok hr G F h3)
    · cases h
  | call f l => exact (kCallX_ok (E := fun _ _ _ => False) (x := .call f l) hr G F LamX.takes0 rfl h0).snd (callE_true (x := .call f l) rfl h0)
  | callV i l => exact (kCallX_ok (E := fun _ _ _ => False) (x := .callV i l) hr G F LamX.takes0 rfl h0).snd (callE_true (x := .callV i l) rfl h0)
  | gf j =>
    dsimp only at h
    split at h
    · simp only [Bool.and_eq_true, decide_eq_true_eq] at h
      obtain ⟨⟨h1, h2⟩, h3⟩ := h
      cases e1 : nm[j]? with
      | none => rw [e1] at h1; cases h1
      | some p =>
        obtain ⟨s, k⟩ := p
        rw [e1] at h1
        cases h1
        obtain ⟨fd, ps, FO, hm, hk, hb⟩ := (F n (Nat.le_refl n) d).2.1 j _ _ e1
        exact snd_gf (gli_ok G h2) hm (okn_ok h3).1
    · cases h
  | word own b => exact kWord_ok hxd G F h
  | bad => exact ⟨nice, ⟨fun pins s σ H Q I ⟨ι, σ', m, _, _, p⟩ => p.elim⟩, ⟨fun pins s σ H Q I ⟨ι, σ', m, _, _, p⟩ => p.elim⟩⟩
  | b1 o a => exact kB1_ok hr G F h
  | b2 o a b => exact kB2_ok hr G F h
  | b3 o a b c =>
    cases o with
    | get =>
      obtain ⟨o, x, y, apos, cpos, rfl, h1, h2, h3, h4, h5⟩ := kM2_inv (name := "get") h
      exact snd_get2 (Γ := Γ) G.bl.rng G.hu h1 h2 (hr X Y o a G F h3) (hr X Y x b G F h4) (hr X Y y c G F h5)
    | setdef =>
      obtain ⟨o, x, y, apos, cpos, rfl, h1, h2, h3, h4, h5⟩ := kM2_inv (name := "setdefault") h
      exact snd_setdef (Γ := Γ) G.bl.rng h1 h2 (hr X Y o a G F h3) (hr X Y x b G F h4) (hr X Y y c G F h5)
  | comp e' tg it ifs own =>
    obtain ⟨elt, t, i, fs, scope, pos, ownp, rfl, k⟩ := kComp_ok hr G F h
    exact k.snd G
  | lstRng a b =>
    rcases kRng_inv h with ⟨p, q, x, ppos, pos, rfl, h1, h2, rfl, h3⟩ | ⟨p, q, x, y, ppos, pos, rfl, h1, h2, h3, h4⟩
    · exact snd_lstRng1 G.calm (gli_ok G h1) (blt_ok G (by decide)) (gli_ok G h2) (blt_ok G (by decide)) zero_cw (hr X Y _ b G F h3)
    · exact snd_lstRng2 G.calm (gli_ok G h1) (blt_ok G (by decide)) (gli_ok G h2) (blt_ok G (by decide)) (hr X Y _ a G F h3) (hr X Y _ b G F h4)
  | tupRng a b =>
    rcases kRng_inv h with ⟨p, q, x, ppos, pos, rfl, h1, h2, rfl, h3⟩ | ⟨p, q, x, y, ppos, pos, rfl, h1, h2, h3, h4⟩
    · exact snd_tupRng1 G.calm (gli_ok G h1) (blt_ok G (by decide)) (gli_ok G h2) (blt_ok G (by decide)) zero_cw (hr X Y _ b G F h3)
    · exact snd_tupRng2 G.calm (gli_ok G h1) (blt_ok G (by decide)) (gli_ok G h2) (blt_ok G (by decide)) (hr X Y _ a G F h3) (hr X Y _ b G F h4)
  | dsp l =>
    dsimp only at h
    split at h
    · simp only [Bool.and_eq_true, Bool.not_eq_true'] at h
      exact snd_dsp (Γ := Γ) G.bl.rng (kPs_ok hr G F h.2.2) (fun z => by rw [z] at h; cases h.1) (Nat.le_of_ble_eq_true h.2.1)
    · cases h
  | dnew t =>
    dsimp only at h
    split at h
    · exact snd_dnew t
    · cases h
  | sortK a p b => exact kKey_ok hrd G F h
  | minK a p b => exact kMin_ok hrd G F h
  | fld a f =>
    dsimp only at h
    split at h
    · simp only [Bool.and_eq_true, decide_eq_true_eq] at h
      obtain ⟨⟨h1, h2⟩, h3⟩ := h
      exact snd_fld G.bl.kl (by rw [show C.fl = Y.ci.fl by rw [← G.ci]; rfl]; exact h1) h2 (hr X Y _ a G F h3)
    · cases h
  | meth a k l =>
    have FM := (F n (Nat.le_refl n) d).2.2.1
    dsimp only at h
    split at h
    · simp only [Bool.and_eq_true, decide_eq_true_eq] at h
      obtain ⟨⟨⟨⟨⟨h1, h2⟩, h3⟩, h4⟩, h5⟩, h6⟩ := h
      obtain ⟨q, _⟩ := kL_ok hr G F h6
      cases l with
      | nil => cases h6
      | cons z l =>
        have h6' := h6
        unfold kL at h6'
        rw [Bool.and_eq_true] at h6'
        exact snd_meth G.bl.kl FM G.room (by rw [show C.mn = Y.ci.mn by rw [← G.ci]; rfl]; exact h1) h2 h3 h4 (hr X Y _ a G F h5) q (hr X Y _ z G F h6'.1).nice
    · simp only [Bool.and_eq_true, decide_eq_true_eq] at h
      obtain ⟨⟨⟨⟨h1, h2⟩, h3⟩, h5⟩, h6⟩ := h
      cases l with
      | nil => exact snd_meth0 G.bl.kl FM G.room (by rw [show C.mn = Y.ci.mn by rw [← G.ci]; rfl]; exact h1) h2 h3 (hr X Y _ a G F h5)
      | cons z l => cases h6
    · cases h
  | mkI c l =>
    dsimp only at h
    split at h
    · simp only [Bool.and_eq_true, decide_eq_true_eq] at h
      obtain ⟨⟨⟨h1, h2⟩, h3⟩, h4⟩ := h
      obtain ⟨q, _⟩ := kL_ok hr G F h4
      cases d with
      | zero => exact ⟨nice, ⟨fun pins s σ H Q I ⟨ι, σ', m, _, _, p⟩ => p.elim⟩, ⟨fun pins s σ H Q I ⟨ι, σ', m, _, _, p⟩ => p.elim⟩⟩
      | succ d =>
        have hc := h1
        rw [← show C.cn = Y.ci.cn by rw [← G.ci]; rfl] at hc
        obtain ⟨ms, f, np, e1, e2⟩ := (F n (Nat.le_refl n) d).2.2.2 c _ hc
        cases l with
        | nil => cases h4
        | cons z l =>
          have h4' := h4
          unfold kL at h4'
          rw [Bool.and_eq_true] at h4'
          exact snd_mkI e1 e2 (F n (Nat.le_refl n) d).2.2.1 G.bl.kl G.room hc (gli_ok G h2) (okn_ok h3).1 q (hr X Y _ z G F h4'.1).nice
    · cases h
  | comp2 e' tg it ifs tg1 it1 ifs1 own own1 => exact kComp2_ok hr G F h
  | lstS l =>
    dsimp only at h
    split at h
    · exact snd_lstS (kP_ok hr G F h)
    · cases h
  | tupS l =>
    dsimp only at h
    split at h
    · exact snd_tupS (kP_ok hr G F h)
    · cases h
  | sortKR a c p b => exact kKeyR_ok hrd (fun a h d => by rw [isZero_ok h]; exact zero_cw) G F h
theorem chk_nice : ∀ {f : Nat} {e : Expr} {x : Ex}, chkE nm gn f Y e x = true → Nice e
  | 0, e, x, h => by cases h
  | f + 1, e, x, h => by
    have h : kE nm gn (chkE nm gn f) Y e x = true := h
    unfold kE at h
    rw [Bool.and_eq_true] at h
    exact nice_of h.1
/-! ### statements -/
abbrev Hs (E : XK) (C : Cn) (Γ : Pg) (nm : List (Str × Nat)) (gn : List Str) (rs : Sc → List Stmt → List Sx → Bool) (n d : Nat) : Prop := ∀ (X : Cx) (Y : Sc) (st : List Stmt) (x : List Sx), Gd C Γ gn X Y d → Gx E X → Fx C Γ nm X n d → rs Y st x = true → SndSs E X C st (fun σ m => (ev Γ n).s d x σ m)
theorem sw_true' {elt : Expr} {gs : List Comprehension} {scope : Scope} {pos py : Pos} {y : Str} {l : Nat} {env : Env} (hk : env.scope.kind = .function) (hy : env.scope.names.lookup y = some .cell) : swapsWith (.ListComp elt gs scope pos) (some (.Name y py)) l env = pure false := by
  have ky : env.kindOf y = some .cell := hy
  unfold swapsWith
  simp only [ky]
  have e : (some NameKind.cell == some NameKind.local) = false := by decide
  simp [e]
theorem sy_false {α : Type} {st : Stmt} {x : Ex} {ga : Sl → M → RE α} {k : Sl → α → M → RS} (h : isCallE x = false) (q : SndS E X C st (fun σ m => SB σ (ga σ m) (k σ))) : SndS E X C st (fun σ m => SY x σ (ga σ m) (k σ)) := by
  have e : (fun σ m => SY x σ (ga σ m) (k σ)) = fun σ m => SB σ (ga σ m) (k σ) := by funext σ m; unfold SY; rw [h]
  rw [e]; exact q
theorem sy_true {α : Type} {st : Stmt} {x : Ex} {ga : Sl → M → RE α} {k : Sl → α → M → RS} (h : isCallE x = true) (q : SndS E X C st (fun σ m => SX σ (ga σ m) (k σ))) : SndS E X C st (fun σ m => SY x σ (ga σ m) (k σ)) := by
  have e : (fun σ m => SY x σ (ga σ m) (k σ)) = fun σ m => SX σ (ga σ m) (k σ) := by funext σ m; unfold SY; rw [h]
  rw [e]; exact q
/-- a comprehension, stored -/
theorem kAsg_ok (hr : Hr C Γ nm gn r n d) (hx : HrX C Γ nm gn r n d) (hr0 : ∀ k, k < n → Hr C Γ nm gn r k d) (G : Gd C Γ gn X Y d) (GX : Gx E X) (F : Fx C Γ nm X n d) (F0 : ∀ k, k < n → Fx C Γ nm X k d) {tg a : Expr} {t : Tg} {x : Ex} {pos : Pos} (h : kAsg r Y pos.line tg a t x = true) : SndS E X C (.Assign [tg] a pos) (fun σ m => SY x σ ((ev Γ n).e d x σ m) fun w m1 => SB σ (tgW Γ (ev Γ n) d t w σ m1) fun σ2 m2 => .nx σ2 m2) := by
  unfold kAsg at h
  rw [Bool.or_eq_true] at h
  rcases h with h | h
  · simp only [Bool.and_eq_true] at h
    obtain ⟨⟨⟨h1, h2⟩, h3⟩, h4⟩ := h
    have h2 : swappedStores [tg] a X.env = pure none := by
      rw [Bool.or_eq_true] at h2
      exact h2.elim noSwap_ok (noSwapC_ok G.sc)
    cases hc : isCallE x with
    | false => exact sy_false hc (snds_asg (hr X Y a x G F h3) (kT_ok hr G F 6 6 h4) (comp_ok h1) h2)
    | true => exact sy_true hc (snds_asgX (hx E X Y a x G F GX.tk hc h3) (kT_ok hr G F 6 6 h4) (comp_ok h1) h2)
  · split at h
    · rename_i s p i elt t' i' fs z scope cpos e' tg' it ifs own
      simp only [Bool.and_eq_true, Bool.or_eq_true, decide_eq_true_eq] at h
      obtain ⟨⟨⟨h1, h2⟩, h3⟩, h4⟩ := h
      obtain ⟨g1, g2⟩ := stB_ok G h3
      have hi := N_ok G h2
      refine sy_false rfl ?_
      cases n with
      | zero => exact snds_never fun K C ι H D σ m p => p
      | succ n =>
        obtain ⟨elt2, t2, i2, fs2, scope2, pos2, ownp, e, k⟩ := kComp_ok (hr0 n (Nat.lt_succ_self n)) G (F0 n (Nat.lt_succ_self n)) h1
        injection e with e1 e2 e3 e4
        subst e1 e3 e4
        injection e2 with e2
        injection e2 with q1 q2 q3 q4
        subst q1 q2 q3 q4
        rcases h4 with ⟨⟨⟨k1, k2⟩, k3⟩, k4⟩ | ⟨k1, k2⟩
        · rw [Bool.not_eq_true'] at k4
          have ps := ps_lc (pos := cpos) (spos := pos) (py := p) (i := i) (y := s) G.calm G.ndX hi (by rw [G.sc]; exact k2) (sw_true (by rw [G.sc]; exact k1) (by rw [G.sc]; exact k2) k3 k4) k.hi k.ok k.hts k.hg k.ht k.he
          rw [k.eo] at ps
          exact snds_setBy (ga := fun σ m => evComp Γ (ev Γ n) d e' tg' it ifs own σ m) ps (fun _ _ _ h => h) fun pins σ H s' I => by rw [I.len]; exact (List.getElem?_eq_some_iff.mp hi).1
        · exact snds_asg (k.snd G) (sndg_nm G.ndX hi g1 g2) (sw_true' (by rw [G.sc]; exact k1) (by rw [G.sc]; exact k2)) rfl
    · rename_i s p i elt t' i' fs z t1 i1 fs1 z1 scope cpos e' tg' it ifs tg1 it1 ifs1 own own1
      simp only [Bool.and_eq_true, Bool.or_eq_true, decide_eq_true_eq] at h
      obtain ⟨⟨⟨h1, h2⟩, h3⟩, h4⟩ := h
      obtain ⟨g1, g2⟩ := stB_ok G h3
      have hi := N_ok G h2
      refine sy_false rfl ?_
      cases n with
      | zero => exact snds_never fun K C ι H D σ m p => p
      | succ n =>
        obtain ⟨ks, kp⟩ := kComp2_set (hr0 n (Nat.lt_succ_self n)) G (F0 n (Nat.lt_succ_self n)) h1
        rcases h4 with ⟨⟨⟨k1, k2⟩, k3⟩, k4⟩ | ⟨k1, k2⟩
        · rw [Bool.not_eq_true'] at k4
          exact snds_setBy (ga := fun σ m => evComp2 Γ (ev Γ n) d e' tg' it ifs tg1 it1 ifs1 own own1 σ m) (kp i s p pos hi (by rw [G.sc]; exact k2) (sw_true (by rw [G.sc]; exact k1) (by rw [G.sc]; exact k2) k3 k4)) (fun _ _ _ h => h) fun pins σ H s' I => by rw [I.len]; exact (List.getElem?_eq_some_iff.mp hi).1
        · exact snds_asg ks (sndg_nm G.ndX hi g1 g2) (sw_true' (by rw [G.sc]; exact k1) (by rw [G.sc]; exact k2)) rfl
    · rename_i o s p oa f
      simp only [Bool.and_eq_true, decide_eq_true_eq] at h
      obtain ⟨⟨h1, h2⟩, h3⟩ := h
      have hf : C.fl[f]? = some s := by rw [show C.fl = Y.ci.fl by rw [← G.ci]; rfl]; exact h1
      have hs : swapsWith a (some (.Attribute o s p)) pos.line X.env = pure false := comp_ok (by rw [Bool.or_eq_true]; exact .inr rfl)
      cases hc : isCallE x with
      | false => exact sy_false hc (snds_asgF G.bl.kl hf (hr X Y o oa G F h2) (hr X Y a x G F h3) hs)
      | true => exact sy_true hc (snds_asgFX G.bl.kl hf (hr X Y o oa G F h2) (hx E X Y a x G F GX.tk hc h3) hs)
    · cases h
theorem sw2_some {env : Env} {s t : Str} {p q pt pt2 : Pos} {kt k2 : Nat} {a b : Expr} (hk : env.scope.kind = .function) (hs : env.scope.names.lookup s = some .local) (ht : env.scope.names.lookup t = some .local) (hl : (q.line == p.line) = true) (hne : s ≠ t) (h1 : ([a, b].all (foldedForSure 8)) = false) (h2 : ([a, b].all (constantsAlone 8)) = false) (ha : niceE a = true) (hb : niceE b = true) :
    swappedStores [.Tuple [.Name s p, .Name t q] kt pt] (.Tuple [a, b] k2 pt2) env = pure (some [s, t]) := by
  have hb' : env.blockKind = .function := by unfold Env.blockKind; rw [hk]; rfl
  have es : env.kindOf s = some .local := hs
  have et : env.kindOf t = some .local := ht
  have st1 : ([a, b].any fun | .Starred .. => true | _ => false) = false := by
    cases a <;> first | (cases ha; done) | (cases b <;> first | (cases hb; done) | rfl)
  have hl' : q.line = p.line := eq_of_beq hl
  have ed : [s, t].eraseDups = [s, t] := by
    rw [List.eraseDups_cons]
    have : (!(t == s)) = true := by simp [Ne.symm hne]
    rw [List.filter_cons, if_pos this]
    rfl
  have sa : (match a with | .Starred .. => true | _ => false) = false := by cases a <;> first | (cases ha; done) | rfl
  have sb : (match b with | .Starred .. => true | _ => false) = false := by cases b <;> first | (cases hb; done) | rfl
  unfold swappedStores
  simp [hb', es, et, h1, h2, Expr.pos, List.filterMap, hl', ed]
  intro hh
  exfalso
  clear h1 h2 sa sb st1
  rcases hh with hh | hh
  · cases a <;> first | (cases ha; done) | (cases hh; done)
  · cases b <;> first | (cases hb; done) | (cases hh; done)
theorem sw2_cell {env : Env} {s t : Str} {p q pt pt2 : Pos} {kt k2 : Nat} {a b : Expr} (h : env.scope.names.lookup s = some .cell ∨ env.scope.names.lookup t = some .cell ∨ ([a, b].all (foldedForSure 8)) = true) (ha : niceE a = true) (hb : niceE b = true) :
    swappedStores [.Tuple [.Name s p, .Name t q] kt pt] (.Tuple [a, b] k2 pt2) env = pure none := by
  have sa : (match a with | .Starred .. => true | _ => false) = false := by cases a <;> first | (cases ha; done) | rfl
  have sb : (match b with | .Starred .. => true | _ => false) = false := by cases b <;> first | (cases hb; done) | rfl
  unfold swappedStores
  by_cases hb' : env.blockKind = .function
  · rcases h with h | h | h
    · have es : env.kindOf s = some .cell := h
      have e : (some NameKind.cell = some NameKind.local) = False := by simp
      simp only [hb', es, sa, sb, List.filterMap, Expr.pos]
      by_cases k : env.kindOf t = some .local ∧ q.line = p.line <;> simp [e, k, sa, sb]
    · have et : env.kindOf t = some .cell := h
      simp only [hb', et, sa, sb, List.filterMap, Expr.pos]
      by_cases k : env.kindOf s = some .local <;> simp [k, sa, sb]
    · simp [hb', sa, sb, h, List.filterMap, Expr.pos]
  · simp [hb']
theorem sw3_some {env : Env} {s t u : Str} {p q q2 pt pt2 : Pos} {kt k2 : Nat} {a b c : Expr} (hk : env.scope.kind = .function) (hs : env.scope.names.lookup s = some .local) (ht : env.scope.names.lookup t = some .local) (hu : env.scope.names.lookup u = some .local) (hl : (q.line == p.line) = true) (hl2 : (q2.line == p.line) = true) (hne : s ≠ t) (hn2 : s ≠ u) (hn3 : t ≠ u)
    (h1 : ([a, b, c].all (foldedForSure 8)) = false) (h2 : ([a, b, c].all (constantsAlone 8)) = false) (ha : niceE a = true) (hb : niceE b = true) (hc : niceE c = true) :
    swappedStores [.Tuple [.Name s p, .Name t q, .Name u q2] kt pt] (.Tuple [a, b, c] k2 pt2) env = pure (some [s, t, u]) := by
  have hb' : env.blockKind = .function := by unfold Env.blockKind; rw [hk]; rfl
  have es : env.kindOf s = some .local := hs
  have et : env.kindOf t = some .local := ht
  have eu : env.kindOf u = some .local := hu
  have hl' : q.line = p.line := eq_of_beq hl
  have hl2' : q2.line = p.line := eq_of_beq hl2
  have ed : [s, t, u].eraseDups = [s, t, u] := by
    have e1 : (!(t == s)) = true := by simp [Ne.symm hne]
    have e2 : (!(u == s)) = true := by simp [Ne.symm hn2]
    have e3 : (!(u == t)) = true := by simp [Ne.symm hn3]
    rw [List.eraseDups_cons, List.filter_cons, if_pos e1, List.filter_cons, if_pos e2, List.filter_nil, List.eraseDups_cons, List.filter_cons, if_pos e3]
    rfl
  unfold swappedStores
  simp [hb', es, et, eu, h1, h2, Expr.pos, List.filterMap, hl', hl2', ed]
  intro hh
  exfalso
  clear h1 h2
  rcases hh with hh | hh | hh
  · cases a <;> first | (cases ha; done) | (cases hh; done)
  · cases b <;> first | (cases hb; done) | (cases hh; done)
  · cases c <;> first | (cases hc; done) | (cases hh; done)
theorem kPar_ok (hr : Hr C Γ nm gn r n d) (G : Gd C Γ gn X Y d) (F : Fx C Γ nm X n d) (hnice : ∀ Y e x, r Y e x = true → niceE e = true) {is : List Nat} {xs : List Ex} {ts vs : List Expr} {kt k2 : Nat} {pt pt2 pos : Pos} (h : kPar r Y is xs ts vs = true) :
    SndS E X C (.Assign [.Tuple ts kt pt] (.Tuple vs k2 pt2) pos) (fun σ m => SB σ (evL (ev Γ n) d σ xs m) fun ws m1 => ifB (Nat.beq ws.length is.length) (.nx (parW is ws σ) m1) (.er (.stuck 42))) := by
  unfold kPar at h
  split at h
  · rename_i s p t q a b i j x y
    simp only [Bool.and_eq_true, Bool.or_eq_true, decide_eq_true_eq, Bool.not_eq_true'] at h
    obtain ⟨⟨⟨⟨⟨⟨h1, h2⟩, h3⟩, h4⟩, h5⟩, h6⟩, h7⟩ := h
    have na := hnice _ _ _ h5
    have nb := hnice _ _ _ h6
    have sa := hr X Y a x G F h5
    have sb := hr X Y b y G F h6
    rcases h7 with ⟨⟨⟨⟨⟨k1, k2'⟩, k3⟩, k4⟩, k5⟩, k6⟩ | ⟨⟨k1, k2'⟩, k3⟩
    · exact snds_par G.calm G.ndX (N_ok G h1) (N_ok G h2) h3 (by rw [G.sc]; exact k1) (by rw [G.sc]; exact k2') sa sb (sw2_some (by rw [G.sc]; exact h4) (by rw [G.sc]; exact k1) (by rw [G.sc]; exact k2') k3 k4 k5 k6 na nb) rfl
    · obtain ⟨g1, g2⟩ := stB_ok G k1
      obtain ⟨g3, g4⟩ := stB_ok G k2'
      exact snds_parT (x1 := k2) (k := kt) (pt := pt) (pos2 := pt2) G.calm G.ndX [(i, s, p), (j, t, q)] (fun z hz => by
        rcases List.mem_cons.mp hz with e | hz
        · subst e; exact ⟨N_ok G h1, g1, g2⟩
        · rcases List.mem_cons.mp hz with e | hz
          · subst e; exact ⟨N_ok G h2, g3, g4⟩
          · cases hz) (snda_cons sa (snda_cons sb snda_nil)) rfl rfl (sw2_cell (by
            rw [G.sc]
            rcases k3 with (k3 | k3) | k3
            · exact .inl k3
            · exact .inr (.inl k3)
            · exact .inr (.inr k3)) na nb)
  · rename_i s p t q u q2 a b c i j l x y z
    simp only [Bool.and_eq_true, decide_eq_true_eq, Bool.not_eq_true'] at h
    obtain ⟨⟨⟨⟨⟨⟨⟨⟨⟨⟨⟨⟨⟨⟨⟨⟨⟨⟨⟨h1, h2⟩, h3⟩, h4⟩, h5⟩, h6⟩, h7⟩, h8⟩, h9⟩, h10⟩, k1⟩, k2⟩, k3⟩, k4⟩, k5⟩, k6⟩, k7⟩, k8⟩, k9⟩, k10⟩ := h
    exact snds_par3 G.calm G.ndX (N_ok G h1) (N_ok G h2) (N_ok G h3) h4 h5 h6 (by rw [G.sc]; exact k1) (by rw [G.sc]; exact k2) (by rw [G.sc]; exact k3) (hr X Y a x G F h8) (hr X Y b y G F h9) (hr X Y c z G F h10)
      (sw3_some (by rw [G.sc]; exact h7) (by rw [G.sc]; exact k1) (by rw [G.sc]; exact k2) (by rw [G.sc]; exact k3) k4 k5 k6 k7 k8 k9 k10 (hnice _ _ _ h8) (hnice _ _ _ h9) (hnice _ _ _ h10)) rfl
  · cases h
variable {rs : Sc → List Stmt → List Sx → Bool}
theorem kS_ok (hr : Hr C Γ nm gn r n d) (hx : HrX C Γ nm gn r n d) (hr0 : ∀ k, k < n → Hr C Γ nm gn r k d) (hs : Hs E C Γ nm gn rs n d) (G : Gd C Γ gn X Y d) (GX : Gx E X) (F : Fx C Γ nm X n d) (F0 : ∀ k, k < n → Fx C Γ nm X k d) (hnice : ∀ Y e x, r Y e x = true → niceE e = true) {st : Stmt} {x : Sx} (h : kS r rs Y st x = true) : SndS E X C st (fun σ m => stepS1 Γ (ev Γ n) d x σ m) := by
  unfold kS at h
  cases x with
  | asg t e =>
    dsimp only at h
    split at h
    · exact kAsg_ok hr hx hr0 G GX F F0 h
    · cases h
  | par is es =>
    dsimp only at h
    split at h
    · exact kPar_ok hr G F hnice h
    · cases h
  | augv i o e =>
    dsimp only at h
    split at h
    · simp only [Bool.and_eq_true, decide_eq_true_eq] at h
      obtain ⟨⟨⟨rfl, h1⟩, h2⟩, h3⟩ := h
      obtain ⟨g1, g2⟩ := stB_ok G h2
      exact snds_augv o G.ndX (N_ok G h1) g1 g2 (hr X Y _ e G F h3)
    · cases h
  | augx a i o e =>
    dsimp only at h
    split at h
    · simp only [Bool.and_eq_true, decide_eq_true_eq] at h
      obtain ⟨⟨⟨rfl, h1⟩, h2⟩, h3⟩ := h
      exact snds_augx o G.bl.rng G.hu (hr X Y _ a G F h1) (hr X Y _ i G F h2) (hr X Y _ e G F h3)
    · cases h
  | ex e =>
    dsimp only at h
    split at h
    · rw [Bool.and_eq_true] at h
      cases hc : isCallE e with
      | false => exact sy_false hc (snds_ex (hr X Y _ e G F h.2) (noComp_ok h.1))
      | true => exact sy_true hc (snds_exX (hx E X Y _ e G F GX.tk hc h.2) (noComp_ok h.1))
    · cases h
  | iff c a b =>
    dsimp only at h
    split at h
    · simp only [Bool.and_eq_true] at h
      exact snds_iff (hr X Y _ c G F h.1.1) (hs X Y _ a G GX F h.1.2) (hs X Y _ b G GX F h.2)
    · cases h
  | whl c b =>
    dsimp only at h
    split at h
    · rw [Bool.and_eq_true] at h
      exact snds_whl GX.po (hr X Y _ c G F h.1) (hs X Y _ b G GX F h.2)
    · cases h
  | fr t i b =>
    dsimp only at h
    split at h
    · simp only [Bool.and_eq_true] at h
      exact snds_lock (it := i) (snds_for GX.po G.calm (kI_ok hr G F h.1.1) (kT_ok hr G F 6 6 h.1.2) (hs X Y _ b G GX F h.2))
    · cases h
  | ret e =>
    dsimp only at h
    split at h
    · cases hc : isCallE e with
      | false => exact sy_false hc (snds_ret (hr X Y _ e G F h))
      | true => exact sy_true hc (snds_retX (hx E X Y _ e G F GX.tk hc h))
    · cases h
  | pas =>
    dsimp only at h
    split at h
    · exact snds_pas
    · cases h
  | brk =>
    dsimp only at h
    split at h
    · exact snds_brk
    · cases h
  | cnt =>
    dsimp only at h
    split at h
    · exact snds_cnt
    · cases h
  | rse c l =>
    dsimp only at h
    split at h
    · rename_i s np es cpos rpos
      simp only [Bool.and_eq_true, decide_eq_true_eq] at h
      obtain ⟨⟨⟨h1, h2⟩, h3⟩, h4⟩ := h
      split at h4
      · exact snds_rse0 (ih := ev Γ n) (d := d) G.calm GX.tk (gli_ok G h2) (okn_ok h3).1 (G.en c _ h1)
      · exact snds_rse1 (ih := ev Γ n) (d := d) G.calm GX.tk G.room (gli_ok G h2) (okn_ok h3).1 (G.en c _ h1) (hr X Y _ _ G F h4)
      · cases h4
    · cases h
  | bad => exact snds_never fun K C ι H D σ m p => p
  | _ => cases h
theorem kSs_ok (hr : Hr C Γ nm gn r n d) (hx : HrX C Γ nm gn r n d) (hr0 : ∀ k, k < n → Hr C Γ nm gn r k d) (hs : Hs E C Γ nm gn rs n d) (G : Gd C Γ gn X Y d) (GX : Gx E X) (F : Fx C Γ nm X n d) (F0 : ∀ k, k < n → Fx C Γ nm X k d) (hnice : ∀ Y e x, r Y e x = true → niceE e = true) : ∀ {st : List Stmt} {x : List Sx}, kSs r rs Y st x = true → SndSs E X C st (fun σ m => stepS Γ (ev Γ n) d x σ m)
  | [], [], _ => sndss_nil
  | st :: sts, x :: xs, h => by
    unfold kSs at h
    rw [Bool.and_eq_true] at h
    exact sndss_cons (kS_ok hr hx hr0 hs G GX F F0 hnice h.1) (kSs_ok hr hx hr0 hs G GX F F0 hnice h.2)
  | [], _ :: _, h => by cases h
  | _ :: _, [], h => by cases h
theorem chk_niceE {f : Nat} {Y : Sc} {e : Expr} {x : Ex} (h : chkE nm gn f Y e x = true) : niceE e = true := by
  cases f with
  | zero => cases h
  | succ f =>
    have h : kE nm gn (chkE nm gn f) Y e x = true := h
    unfold kE at h
    rw [Bool.and_eq_true] at h
    exact h.1
/-! ### defs -/
/-- the code object and its table of a def that makes lambdas -/
def LmF (C : Cn) (base : Heap) (mg : Str → Option Value) (x : Str) (fd : FuncData) (lm : Bool) : Prop := lm = true → ∃ c P, LamX.TabB base mg c P ∧ fd.code = .ref c ∧ (P, x ++ ".<locals>." ++ "<lambda>") ∈ C.tb ∧ ∀ q ∈ C.tb, q.1 = P → q.2 = x ++ ".<locals>." ++ "<lambda>"
/-- the rule for a def, its code object told -/
theorem funC {P : Program} {w : World} {K : PySem.W.Frag} {mg : Str → Option Value} {base : Heap} {x qual : Str} {st : Stmt} {f : Addr} {fd : FuncData} {N ps : List Str} {k : Nat} {sp : Sp} (F : L2.Fun K x qual st f fd) (S : FnScope N ps (defScope st)) (len : ∀ vs H Q E, sp vs H Q E → vs.length = ps.length)
    (hbody : ∀ (cdv : Value) (A : Around) (outer : List Env) (s : Shared) (H : Hp) (vs : List V) (Q : VK) (E : XK), fd.code = cdv → Room k (A.deeper (envOfC qual (defScope st) s.heap.objs.size f cdv)) → sp vs H Q E →
      ∃ t, PSs (cxOf (L2.CX P w) P w K mg base N qual (defScope st) f cdv A outer s H E) (defBody st) t ∧ t { nx := fun _ H' => Q .non H', rt := Q } (L2.start N vs) H) : FnOk P w K mg base (L2.CX P w) (k + 1) f fd ps sp := by
  obtain ⟨_, _, _, _, _, _, cdv, _, _, e, lk, hcd⟩ := F.ex
  have hc : fd.code = cdv := by rw [e]
  rw [e] at lk
  have := fn_of (CX := L2.CX P w) (P := P) (w := w) (mg := mg) (base := base) (sp := sp) (k := k) lk hcd S len fun A outer s H vs Q E hr hsp => hbody cdv A outer s H vs Q E hc hr hsp
  rw [e]
  exact this
/-- a promise without exceptions -/
theorem fn_cx {P : Program} {w : World} {K : PySem.W.Frag} {mg : Str → Option Value} {base : Heap} {f : Addr} {fd : FuncData} {ps : List Str} {k : Nat} {sp : Sp} {CX : CXT} (F : FnOk P w K mg base CX0 k f fd ps sp) : FnOk P w K mg base CX k f fd ps sp :=
  ⟨F.len, fun A outer s H args us vs Q E hr e0 hb r h => codeAny_mono (F.run A outer s H args us vs Q E hr e0 hb r h) fun rr s' hq => by
    cases rr with
    | error e => exact (show False from hq).elim
    | ok fl => cases fl <;> exact hq⟩
theorem fn_no {P : Program} {w : World} {K : PySem.W.Frag} {mg : Str → Option Value} {base : Heap} {f : Addr} {fd : FuncData} {ps : List Str} {k : Nat} {sp : Sp} (F : FnOk P w K mg base (L2.CX P w) k f fd ps sp) : FnOk P w K mg base CX0 k f fd ps (fun vs H Q _ => sp vs H Q fun _ _ _ => False) :=
  ⟨fun vs H Q E h => F.len vs H Q _ h, fun A outer s H args us vs Q E hr e0 hb r h => codeAny_mono (F.run A outer s H args us vs Q _ hr e0 hb r h) fun rr s' hq => by
    cases rr with
    | error e =>
      obtain ⟨_, _, _, _, _, _, _, _, _, _, _, _, z⟩ := (show L2.CX P w outer H s (fun _ _ _ => False) e s' from hq)
      exact z.elim
    | ok fl => cases fl <;> exact hq⟩
/-- what is known of the program's defs -/
structure Df0 (C : Cn) (Γ : Pg) (nm : List (Str × Nat)) (gn : List Str) (en : List (Str × Bool)) (wd : Option Str) (P : Program) (w : World) (K : PySem.W.Frag) (mg : Str → Option Value) (base : Heap) : Prop where
  ar : Γ.ar = nm.map (·.2)
  fn : ∀ (j : Nat) (x : Str) (k : Nat), nm[j]? = some (x, k) → ∃ (fd : FuncData) (ps : List Str), mg x = some (.ref (C.ga j)) ∧ PySem.W.keepIn K (.ref (C.ga j)) = true ∧ Binds K fd ps [] ∧ ps.length = k ∧
    (nth Γ.df j = some .word ∨ (nth Γ.df j = some .draw ∧ FnOk P w K mg base CX0 2 (C.ga j) fd ps (spF K C k fun ws m => drawW Γ ws m)) ∨
      ∃ (st : Stmt) (fn : Fn) (N : List Str), nth Γ.df j = some (.fn fn) ∧ L2.Fun K x x st (C.ga j) fd ∧ FnScope N ps (defScope st) ∧ N.length = fn.n ∧ N.Nodup ∧ ∃ lm, LmF C base mg x fd lm ∧ chkS nm gn 1000 ⟨N, defScope st, fun _ => true, lm, en, wd, ciOf C⟩ (defBody st) fn.b = true)
  ec : ∀ (c : Nat) (x : Str × Bool), en[c]? = some x → Ec C K P mg c x
  wo : ∀ (x : Str), wd = some x → ∀ X : Cx, X.prog = P → X.K = K → X.mg = mg → WordOk C Γ X x
  bl : Bl C Γ gn K mg
  ms : ∀ (c k f np : Nat) (x : Str) (l : List (Nat × Nat × Nat)), C.cn[c]? = some x → nth Γ.cl c = some l → methOf k l = some (f, np) → ∃ (y qual : Str) (fd : FuncData) (ps : List Str), C.mn[k]? = some y ∧ Meth K (C.cl c) y (C.ga f) ∧ Binds K fd ps [] ∧ ps.length = np ∧ (k = 0 → Mk K (C.cl c) (C.ga f)) ∧
    ∃ (st : Stmt) (fn : Fn) (N : List Str), nth Γ.df f = some (.fn fn) ∧ L2.Fun K y qual st (C.ga f) fd ∧ FnScope N ps (defScope st) ∧ N.length = fn.n ∧ N.Nodup ∧ ∃ lm, LmF C base mg qual fd lm ∧ chkS nm gn 1000 ⟨N, defScope st, fun _ => true, lm, en, wd, ciOf C⟩ (defBody st) fn.b = true
  mi : Mi C Γ
theorem startSim {K : PySem.W.Frag} {ι : Im} {H : Hp} {ws : List W} {vs : List V} {N : List Str} {k : Nat} (r : RepVs C (TT' K H) ι ws vs) (hk : N.length = k) : SimS K C ι H (startW k ws) (L2.start N vs) := by
  intro i w e
  unfold startW at e
  rw [nth_eq] at e
  by_cases hi : i < ws.length
  · rw [List.getElem?_append_left (by simpa using hi), List.getElem?_map] at e
    cases hw : ws[i]? with
    | none => rw [hw] at e; cases e
    | some w' =>
      rw [hw] at e
      cases e
      obtain ⟨v, e1, q⟩ := r.get hw
      refine ⟨v, ?_, q⟩
      unfold L2.start
      rw [List.getElem?_append_left (by rw [List.length_map, ← r.length]; exact hi), List.getElem?_map, e1]; rfl
  · rw [List.getElem?_append_right (by simpa using hi), List.getElem?_replicate] at e
    split at e <;> cases e
theorem ofRS_post {K : PySem.W.Frag} {ι : Im} {H : Hp} {Q : VK} : ∀ {x : RS}, PostX (QV K C ι H Q) (QX K C ι H E) (ofRS x) → PostS E K C ι H { nx := fun _ H' => Q .non H', rt := Q } x := fun {x} => by
  induction x with
  | nx σ m => exact fun p ι1 H1 σ1 S l t s => p ι1 H1 .non S l t .non
  | bk σ m => exact fun p => p.elim
  | ct σ m => exact fun p => p.elim
  | rt w m => exact fun p ι1 H1 v S l t q => p ι1 H1 v S l t q
  | exc x σ m => exact id
  | er e => exact id
  | draw n k ih => exact fun p d hd => ih _ (p d hd)
variable {en : List (Str × Bool)} {wd : Option Str}
theorem body_ok {P : Program} {w : World} {K : PySem.W.Frag} {mg : Str → Option Value} {base : Heap} (D : Df0 C Γ nm gn en wd P w K mg base)
    (hS : ∀ (d : Nat) (E : XK) (X : Cx) (Y : Sc) (st : List Stmt) (x : List Sx), Gd C Γ gn X Y d → Gx E X → (∀ k, k < n → ∀ d', Fo C Γ nm X.prog X.w X.K X.mg X.base k d') → chkS nm gn 1000 Y st x = true → SndSs E X C st (fun σ m => (ev Γ n).s d x σ m))
    (F0 : ∀ k, k < n → ∀ d', Fo C Γ nm P w K mg base k d') {j : Nat} {y x : Str} {st : Stmt} {fn : Fn} {N ps : List Str} {fd : FuncData} {lm : Bool} (hd : nth Γ.df j = some (.fn fn)) (FU : L2.Fun K y x st (C.ga j) fd) (SC : FnScope N ps (defScope st)) (hN : N.length = fn.n) (nd : N.Nodup) (hlm : LmF C base mg x fd lm)
    (hc : chkS nm gn 1000 ⟨N, defScope st, fun _ => true, lm, en, wd, ciOf C⟩ (defBody st) fn.b = true) (d : Nat) : FnOk P w K mg base (L2.CX P w) (d + 2) (C.ga j) fd ps (spF K C ps.length fun ws m => callW Γ (ev Γ n) d j ws m) := by
  cases d with
  | zero =>
    refine ⟨fun vs H Q E h => h.1, fun A outer s H args us vs Q E hr e0 hb r ⟨_, ι, m, ws, S, rr, p⟩ => ?_⟩
    have e : callW Γ (ev Γ n) 0 j ws m = .er .fuel := by
      show liftO 36 (nth Γ.df j) (fun o => callD Γ (ev Γ n) 0 ws m o) = _
      rw [hd]; rfl
    have p : PostX (QV K C ι H Q) (QX K C ι H E) (callW Γ (ev Γ n) 0 j ws m) := p
    rw [e] at p
    exact p.elim
  | succ d =>
    refine funC FU SC (fun vs H Q E h => h.1) fun cdv A outer s H vs Q E hcd hr ⟨hlen, ι, m, ws, S, rr, p⟩ => ?_
    have e : callW Γ (ev Γ n) (d + 1) j ws m = ofRS ((ev Γ n).s d fn.b (startW fn.n ws) m) := by
      show liftO 36 (nth Γ.df j) (fun o => callD Γ (ev Γ n) (d + 1) ws m o) = _
      rw [hd]; rfl
    have p : PostX (QV K C ι H Q) (QX K C ι H E) (callW Γ (ev Γ n) (d + 1) j ws m) := p
    rw [e] at p
    have G : Gd C Γ gn (cxOf (L2.CX P w) P w K mg base N x (defScope st) (C.ga j) cdv A outer s H E) ⟨N, defScope st, fun _ => true, lm, en, wd, ciOf C⟩ d := ⟨rfl, rfl, rfl, rfl, nd, fun x h => D.wo x h _ rfl rfl rfl, D.ec, hr, D.bl, fun z => by
      obtain ⟨c, P', h1, h2, h3, h4⟩ := hlm z
      exact ⟨c, P', h1, hcd.symm.trans h2, h3, h4⟩, rfl⟩
    have GX : Gx E (cxOf (L2.CX P w) P w K mg base N x (defScope st) (C.ga j) cdv A outer s H E) := ⟨passes_of rfl, takes_of rfl rfl rfl rfl⟩
    have q := hS d E _ _ _ _ G GX F0 hc
    exact ⟨_, q.pss, ι, startW fn.n ws, m, startSim rr hN, S, ofRS_post p⟩
theorem fo_of {P : Program} {w : World} {K : PySem.W.Frag} {mg : Str → Option Value} {base : Heap} (D : Df0 C Γ nm gn en wd P w K mg base)
    (hS : ∀ (d : Nat) (E : XK) (X : Cx) (Y : Sc) (st : List Stmt) (x : List Sx), Gd C Γ gn X Y d → Gx E X → (∀ k, k < n → ∀ d', Fo C Γ nm X.prog X.w X.K X.mg X.base k d') → chkS nm gn 1000 Y st x = true → SndSs E X C st (fun σ m => (ev Γ n).s d x σ m))
    (F0 : ∀ k, k < n → ∀ d', Fo C Γ nm P w K mg base k d') (d : Nat) : Fo C Γ nm P w K mg base n d := by
  refine ⟨D.ar, fun j x k hj => ?_, fun c k f np x l h0 h1 h2 => ?_, D.mi⟩
  · obtain ⟨fd, ps, hm, hk, hb, hl, alt⟩ := D.fn j x k hj
    refine ⟨fd, ps, ?_, hm, hk, hb⟩
    rcases alt with hd | ⟨hd, FO⟩ | ⟨st, fn, N, hd, FU, SC, hN, nd, lm, hlm, hc⟩
    · refine ⟨fun vs H Q E h => by rw [hl]; exact h.1, fun A outer s H args us vs Q E hr e0 hb r ⟨_, ι, m, ws, S, rr, p⟩ => ?_⟩
      have e : callW Γ (ev Γ n) d j ws m = .er (.stuck 65) := by
        show liftO 36 (nth Γ.df j) (fun o => callD Γ (ev Γ n) d ws m o) = _
        rw [hd]; rfl
      have p : PostX (QV K C ι H Q) (QX K C ι H E) (callW Γ (ev Γ n) d j ws m) := p
      rw [e] at p
      exact p.elim
    · refine ((fn_cx FO).mono (by omega)).imp fun vs H Q E ⟨hlen, ι, m, ws, S, r, p⟩ => ⟨hlen, ι, m, ws, S, r, ?_⟩
      have e : callW Γ (ev Γ n) d j ws m = drawW Γ ws m := by
        show liftO 36 (nth Γ.df j) (fun o => callD Γ (ev Γ n) d ws m o) = _
        rw [hd]; rfl
      have p : PostX (QV K C ι H Q) (QX K C ι H E) (callW Γ (ev Γ n) d j ws m) := p
      rw [e] at p
      exact p
    · rw [← hl]
      exact body_ok D hS F0 hd FU SC hN nd hlm hc d
  · obtain ⟨y, qual, fd, ps, hy, hM, hB, hl, hmk, st, fn, N, hd, FU, SC, hN, nd, lm, hlm, hc⟩ := D.ms c k f np x l h0 h1 h2
    refine ⟨⟨y, fd, ps, hy, hM, ?_, hB⟩, hmk⟩
    rw [← hl]
    exact body_ok D hS F0 hd FU SC hN nd hlm hc d
/-! ### all of it, by the evaluator's fuel -/
theorem fx_lt {X : Cx} {n k d : Nat} (F : ∀ k, k < n → ∀ d', Fo C Γ nm X.prog X.w X.K X.mg X.base k d') (h : k < n) : Fx C Γ nm X k d := fun j hj d' => F j (by omega) d'
abbrev SE (C : Cn) (Γ : Pg) (nm : List (Str × Nat)) (gn : List Str) (n : Nat) : Prop := ∀ (f d : Nat) (X : Cx) (Y : Sc) (e : Expr) (x : Ex), Gd C Γ gn X Y d → (∀ k, k < n → ∀ d', Fo C Γ nm X.prog X.w X.K X.mg X.base k d') → chkE nm gn f Y e x = true → Snd X C e (fun σ m => (ev Γ n).e d x σ m)
abbrev SXc (C : Cn) (Γ : Pg) (nm : List (Str × Nat)) (gn : List Str) (n : Nat) : Prop := ∀ (f d : Nat) (E : XK) (X : Cx) (Y : Sc) (e : Expr) (x : Ex), Gd C Γ gn X Y d → (∀ k, k < n → ∀ d', Fo C Γ nm X.prog X.w X.K X.mg X.base k d') → Takes X (fun cls d _ H => E cls d H) → isCallE x = true → chkE nm gn f Y e x = true → SndX E X C e (fun σ m => (ev Γ n).e d x σ m)
theorem soundEX : ∀ n : Nat, SE C Γ nm gn n ∧ SXc C Γ nm gn n
  | 0 => ⟨fun f d X Y e x G F h => ⟨chk_nice h, ⟨fun pins s σ H Q I ⟨ι, σ', m, _, _, p⟩ => p.elim⟩, ⟨fun pins s σ H Q I ⟨ι, σ', m, _, _, p⟩ => p.elim⟩⟩, fun f d E X Y e x G F tk hc h => ⟨chk_nice h, ⟨fun pins s σ H Q I ⟨ι, σ', m, _, _, p⟩ => p.elim⟩⟩⟩
  | n + 1 => by
    obtain ⟨ih, ihx⟩ := soundEX n
    refine ⟨fun f d X Y e x G F h => ?_, fun f d E X Y e x G F tk hc h => ?_⟩
    · cases f with
      | zero => cases h
      | succ f => exact kE_ok (r := chkE nm gn f) (fun X Y e x G F h => ih f d X Y e x G (fun k hk => F k (Nat.le_of_lt hk)) h) (fun d X Y e x G F h => ih f d X Y e x G (fun k hk => F k (Nat.le_of_lt hk)) h) (fun d E X Y e x G F tk hc h => ihx f d E X Y e x G (fun k hk => F k (Nat.le_of_lt hk)) tk hc h) G (fx_lt F (Nat.lt_succ_self n)) h
    · cases f with
      | zero => cases h
      | succ f => exact kCallX_ok (r := chkE nm gn f) (fun X Y e x G F h => ih f d X Y e x G (fun k hk => F k (Nat.le_of_lt hk)) h) G (fx_lt F (Nat.lt_succ_self n)) tk hc h
theorem soundE (n : Nat) : SE C Γ nm gn n := (soundEX n).1
theorem soundS : ∀ (n : Nat) (f d : Nat) (E : XK) (X : Cx) (Y : Sc) (st : List Stmt) (x : List Sx), Gd C Γ gn X Y d → Gx E X → (∀ k, k < n → ∀ d', Fo C Γ nm X.prog X.w X.K X.mg X.base k d') → chkS nm gn f Y st x = true → SndSs E X C st (fun σ m => (ev Γ n).s d x σ m)
  | 0, f, d, E, X, Y, st, x, G, GX, F, h => ⟨⟨fun pins s σ H D I ⟨ι, σ', m, _, _, p⟩ => p.elim⟩⟩
  | n + 1, 0, d, E, X, Y, st, x, G, GX, F, h => by cases h
  | n + 1, f + 1, d, E, X, Y, st, x, G, GX, F, h =>
    kSs_ok (r := chkE nm gn (f + 1)) (rs := chkS nm gn f) (fun X Y e x G F h => soundE n (f + 1) d X Y e x G (fun k hk => F k (Nat.le_of_lt hk)) h)
      (fun E X Y e x G F tk hc h => (soundEX n).2 (f + 1) d E X Y e x G (fun k hk => F k (Nat.le_of_lt hk)) tk hc h)
      (fun k hk X Y e x G F h => soundE k (f + 1) d X Y e x G (fun j hj => F j (Nat.le_of_lt hj)) h)
      (fun X Y st x G GX F h => soundS n f d E X Y st x G GX (fun k hk => F k (Nat.le_of_lt hk)) h) G GX (fx_lt F (Nat.lt_succ_self n)) (fun k hk => fx_lt F (by omega)) (fun Y e x h => chk_niceE h) h
theorem fo_all {P : Program} {w : World} {K : PySem.W.Frag} {mg : Str → Option Value} {base : Heap} (D : Df0 C Γ nm gn en wd P w K mg base) (n : Nat) : ∀ d, Fo C Γ nm P w K mg base n d := by
  induction n using Nat.strongRecOn with
  | ind n ih => exact fo_of D (fun d E X Y st x G GX F h => soundS n 1000 d E X Y st x G GX F h) fun k hk d' => ih k hk d'
end
end
end Jw

/-! The law's draw. -/
namespace Jw
open PySem PySem.Spec PyProof.Rows L2
noncomputable section
def Ntk : List Str := ["_law_row", "_law_many", "_law_found", "_law_cell"]
abbrev rInt : List V → Hp → VK → Prop := fun xs H Q => (∃ i, xs = [V.int i] ∧ Q (V.int i) H) ∨ ∃ k, xs = [V.bl k] ∧ Q (V.int (if k = true then 1 else 0)) H
abbrev rModN : R2 := rI (fun x j => j ≠ 0) fun i j => V.int (i.fmod j)
abbrev rDivN : R2 := rI CDivN fun i j => V.int (i.fdiv j)
section
variable (K : PySem.W.Frag)
abbrev tRow (j : Int) : TE := tOp (rIxL K) (tVar 0) (tC (V.int j))
abbrev tLenE : TE := tCB (fun xs H Q => ∃ x n, xs = [x] ∧ LenV K x H n ∧ Q (V.int ((n : Nat) : Int)) H) (tCons (tRow K 0) tNil)
def tTaken : TS := tSeq
    (tIfS (tB (L2.tGt (tRow K 3) (tC (V.int 0))))
      (tSeq (tAsg (tOp rModN (tCB rInt (tCons (tRow K 3) tNil)) (tVar 1)) (gName 2))
        (tSeq (tAsg (tOp rDivN (tRow K 3) (tVar 1)) (gSub (tVar 0) (tC (V.int 3)) rSetL)) (tRet (tVar 2)))) tNext)
    (tSeq (tAsg (tOp (rI0 fun i j => V.int (i + j)) (tRow K 1) (tC (V.int 1))) (gSub (tVar 0) (tC (V.int 1)) rSetL))
      (tSeq
        (tIfS (tB (L2.tGt (tRow K 1) (tLenE K)))
          (tSeq (tAsg (tOp rModN (tCB rInt (tCons (tOp (rI0 fun i j => V.int (i + j)) (tOp (rI CMul fun i j => V.int (i * j)) (tRow K 2) (tC (V.int 48271))) (tC (V.int 11))) tNil)) (tC (V.int 2147483647))) (gSub (tVar 0) (tC (V.int 2)) rSetL))
            (tRet (tOp rModN (tCB rInt (tCons (tOp rDivN (tRow K 2) (tC (V.int 7))) tNil)) (tVar 1)))) tNext)
        (tSeq (tAsg (tOp (rIxL K) (tRow K 0) (tOp (rI0 fun i j => V.int (i - j)) (tRow K 1) (tC (V.int 1)))) (gName 3))
          (tSeq (tAsg (tOp rModN (tCB rInt (tCons (tOp (rI0 fun i j => V.int (i + j)) (tOp (rI0 fun i j => V.int (i + j)) (tOp (rI CMul fun i j => V.int (i * j)) (tRow K 2) (tC (V.int 48271))) (tVar 3)) (tC (V.int 11))) tNil)) (tC (V.int 2147483647))) (gSub (tVar 0) (tC (V.int 2)) rSetL))
            (tSeq (tIfS (tB (tGe (tVar 3) (tOp (rI CPow fun i j => V.int (i ^ j.toNat)) (tC (V.int 10)) (tC (V.int 18))))) (tAsg (tOp rDivN (tVar 3) (tVar 1)) (gSub (tVar 0) (tC (V.int 3)) rSetL)) tNext)
              (tRet (tOp rModN (tCB rInt (tCons (tVar 3) tNil)) (tVar 1))))))))
end
/-- the first draw from a new row -/
def xOf (ns : List Int) (seed many : Int) : Int := match ns with
  | [] => ((((seed * 48271 + 11).fmod 2147483647).fdiv 7).fmod many)
  | c :: _ => c.fmod many
theorem fmod_range {a b : Int} (h : 0 < b) : 0 ≤ a.fmod b ∧ a.fmod b < b := ⟨Int.fmod_nonneg_of_pos a h, Int.fmod_lt_of_pos a h⟩
section
variable {K : PySem.W.Frag} {H : Hp} {r scr : Addr} {ns : List Int}
abbrev rowV (scr : Addr) (i s t : Int) : List V := [.ref scr, .int i, .int s, .int t]
theorem row_ix {i s t : Int} {Q : VK} {σ : L2.St} {H' : Hp} (hσ : σ[0]? = some (some (.ref r))) (h : H' r = some (.lst (rowV scr i s t))) (j : Nat) (v : V) (hv : (rowV scr i s t)[j]? = some v) (q : Q v H') : tRow K (j : Int) σ H' Q :=
  ⟨_, hσ, _, _, _, v, rfl, rfl, SqL.of h, atI_nat hv, q⟩
theorem row_set {i s t : Int} {σ : L2.St} {H' : Hp} {w : V} {Q : L2.St → Hp → Prop} (hσ : σ[0]? = some (some (.ref r))) (h : H' r = some (.lst (rowV scr i s t))) (j : Nat) (hj : j < 4) (q : Q σ (upd H' r (.lst ((rowV scr i s t).set j w)))) : gSub (tVar 0) (tC (V.int (j : Int))) rSetL w σ H' Q := by
  refine ⟨_, hσ, _, _, _, j, rfl, rfl, h, ?_, q⟩
  unfold ixN
  rw [if_pos (Int.natCast_nonneg j), if_pos (by show (j : Int) < 4; omega)]; rfl
theorem taken_read {i s t many : Int} {Q : VK} (hS : ∀ H', (∀ a, a ≠ r → H' a = H a) → SqL K H' scr (ns.map V.int)) (hr : H r = some (.lst (rowV scr i s t))) (h0 : 0 ≤ i) (hm : 0 < many) (hm2 : many < 1073741824)
    (fin : ∀ d i' s' t' : Int, 0 ≤ i' → 0 ≤ d → d < many → (i = 0 → t = 0 → d = xOf ns s many) → Q (.int d) (upd H r (.lst (rowV scr i' s' t')))) :
    tTaken K { nx := fun _ H' => Q .non H', rt := Q } [some (.ref r), some (.int many), none, none] H := by
  refine row_ix rfl hr 3 _ rfl ?_
  refine ⟨t, 0, rfl, rfl, ?_⟩
  refine ⟨_, rfl, ?_⟩
  show (if decide (0 < t) = true then _ else _)
  by_cases ht : 0 < t
  · rw [decide_eq_true ht, if_pos rfl]
    refine row_ix rfl hr 3 _ rfl ?_
    refine .inl ⟨t, rfl, ?_⟩
    refine ⟨_, rfl, t, many, rfl, rfl, by omega, ?_⟩
    refine row_ix rfl hr 3 _ rfl ?_
    refine ⟨_, rfl, t, many, rfl, rfl, ⟨by omega, by omega⟩, ?_⟩
    refine row_set rfl hr 3 (by decide) ?_
    refine ⟨_, rfl, ?_⟩
    exact fin (t.fmod many) i s (t.fdiv many) h0 (fmod_range hm).1 (fmod_range hm).2 fun _ h => by omega
  · rw [decide_eq_false ht, if_neg (by decide)]
    refine row_ix rfl hr 1 _ rfl ?_
    refine ⟨i, 1, rfl, rfl, ?_⟩
    refine row_set rfl hr 1 (by decide) ?_
    have hr1 : (upd H r (.lst (rowV scr (i + 1) s t))) r = some (.lst (rowV scr (i + 1) s t)) := upd_same
    show tSeq _ _ _ _ (upd H r (.lst (rowV scr (i + 1) s t)))
    generalize hH1 : upd H r (.lst (rowV scr (i + 1) s t)) = H1 at hr1 ⊢
    have oth : ∀ a, a ≠ r → H1 a = H a := fun a ha => by rw [← hH1]; exact upd_ne ha
    refine row_ix rfl hr1 1 _ rfl ?_
    refine row_ix rfl hr1 0 _ rfl ?_
    refine ⟨_, _, rfl, .inl ⟨_, hS H1 oth, rfl⟩, ?_⟩
    refine ⟨_, _, rfl, rfl, _, rfl, ?_⟩
    rw [List.length_map]
    show (if decide ((ns.length : Int) < i + 1) = true then _ else _)
    by_cases hl : (ns.length : Int) < i + 1
    · rw [decide_eq_true hl, if_pos rfl]
      refine row_ix rfl hr1 2 _ rfl ?_
      refine ⟨s, 48271, rfl, rfl, .inr ⟨by omega, by omega⟩, ?_⟩
      refine ⟨_, 11, rfl, rfl, ?_⟩
      refine .inl ⟨_, rfl, ?_⟩
      refine ⟨_, 2147483647, rfl, rfl, (by decide : (2147483647 : Int) ≠ 0), ?_⟩
      refine row_set rfl hr1 2 (by decide) ?_
      have hr2 : (upd H1 r (.lst (rowV scr (i + 1) ((s * 48271 + 11).fmod 2147483647) t))) r = some (.lst (rowV scr (i + 1) ((s * 48271 + 11).fmod 2147483647) t)) := upd_same
      refine row_ix rfl hr2 2 _ rfl ?_
      refine ⟨_, 7, rfl, rfl, ⟨by decide, by decide⟩, ?_⟩
      refine .inl ⟨_, rfl, ?_⟩
      refine ⟨_, rfl, _, many, rfl, rfl, by omega, ?_⟩
      show Q _ (upd H1 r (.lst (rowV scr (i + 1) ((s * 48271 + 11).fmod 2147483647) t)))
      rw [← hH1, upd_upd]
      refine fin _ (i + 1) _ t (by omega) (fmod_range hm).1 (fmod_range hm).2 fun hi _ => ?_
      cases ns with
      | nil => rfl
      | cons c l => rw [List.length_cons] at hl; omega
    · rw [decide_eq_false hl, if_neg (by decide)]
      have hlt : i.toNat < ns.length := by omega
      refine row_ix rfl hr1 0 _ rfl ?_
      refine row_ix rfl hr1 1 _ rfl ?_
      refine ⟨i + 1, 1, rfl, rfl, ?_⟩
      refine ⟨scr, ns.map V.int, i + 1 - 1, .int (ns[i.toNat]), rfl, rfl, hS H1 oth, ?_, ?_⟩
      · have e : i + 1 - 1 = ((i.toNat : Nat) : Int) := by omega
        rw [e]
        exact atI_nat (by rw [List.getElem?_map, List.getElem?_eq_getElem hlt]; rfl)
      generalize hc : ns[i.toNat] = c
      refine row_ix rfl hr1 2 _ rfl ?_
      refine ⟨s, 48271, rfl, rfl, .inr ⟨by omega, by omega⟩, ?_⟩
      refine ⟨_, rfl, _, c, rfl, rfl, ?_⟩
      refine ⟨_, 11, rfl, rfl, ?_⟩
      refine .inl ⟨_, rfl, ?_⟩
      refine ⟨_, 2147483647, rfl, rfl, (by decide : (2147483647 : Int) ≠ 0), ?_⟩
      refine row_set rfl hr1 2 (by decide) ?_
      show tSeq _ _ _ _ (upd H1 r (.lst (rowV scr (i + 1) ((s * 48271 + c + 11).fmod 2147483647) t)))
      have hr2 : (upd H1 r (.lst (rowV scr (i + 1) ((s * 48271 + c + 11).fmod 2147483647) t))) r = some (.lst (rowV scr (i + 1) ((s * 48271 + c + 11).fmod 2147483647) t)) := upd_same
      generalize hs' : (s * 48271 + c + 11).fmod 2147483647 = s' at hr2 ⊢
      have fx : i = 0 → c.fmod many = xOf ns s many := fun hi => by
        cases ns with
        | nil => simp at hlt
        | cons z l => subst hi; cases hc; rfl
      refine ⟨_, rfl, 10, 18, rfl, rfl, ⟨by decide, by decide, by decide⟩, ?_⟩
      refine ⟨c, _, rfl, rfl, _, rfl, ?_⟩
      show (if decide ((10 : Int) ^ (18 : Int).toNat ≤ c) = true then _ else _)
      by_cases hb : (10 : Int) ^ (18 : Int).toNat ≤ c
      · rw [decide_eq_true hb, if_pos rfl]
        refine ⟨_, rfl, _, rfl, c, many, rfl, rfl, ⟨by omega, by omega⟩, ?_⟩
        refine row_set rfl hr2 3 (by decide) ?_
        refine ⟨_, rfl, .inl ⟨c, rfl, ?_⟩⟩
        refine ⟨_, rfl, c, many, rfl, rfl, by omega, ?_⟩
        show Q _ (upd (upd H1 r (.lst (rowV scr (i + 1) s' t))) r (.lst (rowV scr (i + 1) s' (c.fdiv many))))
        rw [← hH1, upd_upd, upd_upd]
        exact fin _ (i + 1) _ _ (by omega) (fmod_range hm).1 (fmod_range hm).2 fun hi _ => fx hi
      · rw [decide_eq_false hb, if_neg (by decide)]
        refine ⟨_, rfl, .inl ⟨c, rfl, ?_⟩⟩
        refine ⟨_, rfl, c, many, rfl, rfl, by omega, ?_⟩
        show Q _ (upd H1 r (.lst (rowV scr (i + 1) s' t)))
        rw [← hH1, upd_upd]
        exact fin _ (i + 1) _ _ (by omega) (fmod_range hm).1 (fmod_range hm).2 fun hi _ => fx hi
end
section
variable {C : Cn} {Γ : Pg} {K : PySem.W.Frag} {ι : Im} {H : Hp} {m : M} {Q : VK}
theorem scr_ref (S : SimH K C ι m H) {n : Ad} {v : V} (r : RepV C (TT' K H) ι (.ref n) v) (h : m.get n = some .scr) : v = .ref C.scr := by
  cases r with
  | ref hn =>
    obtain ⟨a', e1, e2⟩ := S.ob n _ h
    rw [hn] at e1; cases e1
    rw [show _ = C.scr from e2]
theorem row_inv (S : SimH K C ι m H) {n : Ad} {a : Addr} (hn : ι n = some a) (h : isRow m n = true) : n ≠ [] ∧ ∃ i s t : Int, H a = some (.lst (rowV C.scr i s t)) ∧ 0 ≤ i := by
  unfold isRow at h
  split at h
  · rename_i e
    obtain ⟨a', e1, e2⟩ := S.ob n _ e
    rw [hn] at e1; cases e1
    exact ⟨S.ne_root e (by intro z; cases z), e2⟩
  · rename_i xs e
    obtain ⟨vs, f2, rs⟩ := lst_at S hn e
    refine ⟨S.ne_root e (by intro z; cases z), ?_⟩
    unfold isRowL at h
    split at h
    · split at h
      · rename_i hs
        cases rs with
        | cons r1 rs =>
          cases rs with
          | cons r2 rs =>
            cases rs with
            | cons r3 rs =>
              cases rs with
              | cons r4 rs =>
                cases rs
                obtain rfl := scr_ref S r1 hs
                obtain rfl := r2.int_inv
                obtain rfl := r3.int_inv
                obtain rfl := r4.int_inv
                exact ⟨_, _, _, f2, Int.natCast_nonneg _⟩
      · cases h
    · cases h
  · cases h
theorem new_inv (S : SimH K C ι m H) {n : Ad} {a : Addr} (hn : ι n = some a) {seed : Int} (h : isNew m seed n = true) : n ≠ [] ∧ H a = some (.lst (rowV C.scr 0 seed 0)) := by
  unfold isNew at h
  split at h
  · rename_i xs e
    obtain ⟨vs, f2, rs⟩ := lst_at S hn e
    refine ⟨S.ne_root e (by intro z; cases z), ?_⟩
    unfold isNewL at h
    split at h
    · split at h
      · rename_i hs
        rw [Bool.and_eq_true, Bool.and_eq_true, ieq_iff, ieq_iff, ieq_iff] at h
        obtain ⟨h1, h2, h3⟩ := h
        have h1 := of_decide_eq_true h1
        have h2 := of_decide_eq_true h2
        have h3 := of_decide_eq_true h3
        subst h1 h2 h3
        cases rs with
        | cons r1 rs =>
          cases rs with
          | cons r2 rs =>
            cases rs with
            | cons r3 rs =>
              cases rs with
              | cons r4 rs =>
                cases rs
                obtain rfl := scr_ref S r1 hs
                obtain rfl := r2.int_inv
                obtain rfl := r3.int_inv
                obtain rfl := r4.int_inv
                exact f2
      · cases h
    · cases h
  · cases h
theorem row_put (S : SimH K C ι m H) {n : Ad} {a : Addr} {i s t i' s' t' : Int} (hn : ι n = some a) (h0 : n ≠ []) (h : H a = some (.lst (rowV C.scr i s t))) (hi : 0 ≤ i') : SimH K C ι (m.put n .row) (upd H a (.lst (rowV C.scr i' s' t'))) ∧ Tk K H (upd H a (.lst (rowV C.scr i' s' t'))) :=
  ⟨S.put hn h0 (.inl ⟨_, h⟩) (tk_lst h) ⟨i', s', t', upd_same, hi⟩, tk_lst h⟩
theorem so_any (S : SimH K C ι m H) {a : Addr} {i s t : Int} (h : H a = some (.lst (rowV C.scr i s t))) : ∀ H', (∀ b, b ≠ a → H' b = H b) → SqL K H' C.scr (C.ns.map V.int) := fun H' e => by
  rcases S.so with ⟨o, q⟩ | q
  · refine .inl (.inr ⟨o, ?_⟩)
    rw [e _ (fun z => by rw [z] at q; rw [h] at q; cases q)]
    exact q
  · exact .inr q
/-- a draw raises nothing -/
theorem draw_noX {f : W → M → Prop} {f' : Xc → M → Prop} {ws : List W} (p : PostX f f' (drawW Γ ws m)) : PostE f (drawW Γ ws m) := by
  unfold drawW at p ⊢
  split at p
  · unfold drawT at p ⊢
    revert p
    generalize (Nat.blt 0 _ && Nat.blt _ 1073741824) = b1
    generalize narrow Γ _ _ m = b2
    generalize isRow m _ = b3
    generalize (isNew m Γ.seed _ && Nat.beq _ Γ.many) = b4
    cases b1 <;> cases b2 <;> cases b3 <;> cases b4 <;> exact id
  · exact p.elim
theorem taken_post {ws : List W} {vs : List V} (hx : C.x = xOf C.ns Γ.seed Γ.many) (Rg : Rng Γ C) (S : SimH K C ι m H) (r : RepVs C (TT' K H) ι ws vs) (p : PostE (QV K C ι H Q) (drawW Γ ws m)) : tTaken K { nx := fun _ H' => Q .non H', rt := Q } (L2.start Ntk vs) H := by
  unfold drawW at p
  split at p
  · rename_i n many
    cases r with
    | cons r1 r =>
      cases r with
      | cons r2 r =>
        cases r
        cases r1 with
        | ref hn =>
          rename_i a
          obtain rfl := r2.int_inv
          obtain ⟨hb, p⟩ := PostE.ifF p
          rw [Bool.and_eq_true] at hb
          have hb1 := Nat.blt_eq.mp hb.1
          have hb2 := Nat.blt_eq.mp hb.2
          rcases PostE.ifB p with ⟨_, p⟩ | ⟨_, p⟩
          · obtain ⟨hr, p⟩ := PostE.ifF p
            obtain ⟨h0, i, s, t, hH, hi⟩ := row_inv S hn hr
            refine taken_read (many := Int.ofNat many) (so_any S hH) hH hi (by show (0 : Int) < (many : Int); omega) (by show (many : Int) < _; omega) fun d i' s' t' g1 g2 g3 _ => ?_
            obtain ⟨S', t1⟩ := row_put (i' := i') (s' := s') (t' := t') S hn h0 hH g1
            have g3' : d < (many : Int) := g3
            have q := p d.toNat (by omega)
            have e : Int.ofNat d.toNat = d := by show ((d.toNat : Nat) : Int) = d; omega
            rw [e] at q
            exact q ι _ (.int d) S' (Le.refl _) t1 (.int d)
          · obtain ⟨hr, p⟩ := PostE.ifF p
            rw [Bool.and_eq_true] at hr
            obtain ⟨h0, hH⟩ := new_inv S hn hr.1
            have hmany := Nat.eq_of_beq_eq_true hr.2
            refine taken_read (many := Int.ofNat many) (so_any S hH) hH (Int.le_refl 0) (by show (0 : Int) < (many : Int); omega) (by show (many : Int) < _; omega) fun d i' s' t' g1 g2 g3 g4 => ?_
            obtain ⟨S', t1⟩ := row_put (i' := i') (s' := s') (t' := t') S hn h0 hH g1
            have ed : d = 0 + 1 * C.x := by
              rw [g4 rfl rfl, hx, ← hmany]
              show _ = 0 + 1 * xOf C.ns Γ.seed (many : Int)
              rw [Int.one_mul, Int.zero_add]; rfl
            rw [ed]
            cases hlh : ieq Γ.lo Γ.hi with
            | true =>
              rw [hlh] at p
              rw [ieq_iff] at hlh
              have hlh := of_decide_eq_true hlh
              have ex : 0 + 1 * C.x = Γ.lo := by have := Rg.lo; have := Rg.hi; omega
              rw [ex]
              exact p ι _ _ S' (Le.refl _) t1 (.int _)
            | false =>
              rw [hlh] at p
              exact p ι _ _ S' (Le.refl _) t1 (.aff 0 1)
  · exact p.elim
theorem xOf_range {ns : List Int} {s many : Int} (h : 0 < many) : 0 ≤ xOf ns s many ∧ xOf ns s many < many := by
  cases ns with
  | nil => exact fmod_range h
  | cons c l => exact fmod_range h
end
end
end Jw

set_option maxHeartbeats 2000000
/-! Facts of the exception classes, as the head finds them. -/
namespace Jw
open PySem PySem.Spec PyProof.Rows L2
noncomputable section
section
variable (K : PySem.W.Frag)
def oexB (C : Addr) : Bool := (match K.lookup C with
  | some ⟨.type t, _, .cls cd, sl⟩ => decide (t = "type") && (match cd.mro, sl.toList with
    | .ref C' :: bm, [_, _, _, _, some (.builtin n), _] => decide (C' = C) && decide (n = "ValueError.__new__") && !cd.hasDel && cd.hasDict && PySem.HandSPX.refsVE bm
    | _, _ => false)
  | _ => false) && decide (PySem.W.findIn K (.ref C) "__setattr__" = some (some (.builtin "object.__setattr__"))) && decide (PySem.W.subIn K (.ref C) (.type "BaseException") = some true) && decide (PySem.W.typeIn K (.ref C) = some (.type "type")) && PySem.W.keepIn K (.ref C)
variable {K}
theorem oexB_ok {C : Addr} (h : oexB K C = true) : OexC K C := by
  unfold oexB at h
  simp only [Bool.and_eq_true, decide_eq_true_eq] at h
  obtain ⟨⟨⟨⟨h0, h1⟩, h2⟩, h3⟩, h4⟩ := h
  refine ⟨?_, h1, h2, h3, h4⟩
  split at h0
  · rename_i t dd cd sl ho
    rw [Bool.and_eq_true] at h0
    obtain ⟨ht, h0⟩ := h0
    have ht := of_decide_eq_true ht
    subst ht
    split at h0
    · rename_i C' bm k0 k1 k2 k3 n k5 hm hs
      simp only [Bool.and_eq_true, decide_eq_true_eq, Bool.not_eq_true'] at h0
      obtain ⟨⟨⟨⟨rfl, rfl⟩, hdel⟩, hdct⟩, hv⟩ := h0
      obtain ⟨nm, bs, mro, ns, qn, hd, sn, sub, ab, col, del⟩ := cd
      dsimp only at hm hdel hdct
      subst hm hdel hdct
      have hsl : sl = #[k0, k1, k2, k3, some (.builtin "ValueError.__new__"), k5] := by
        obtain ⟨l⟩ := sl
        simp only at hs
        rw [hs]
      subst hsl
      exact ⟨_, _, _, _, _, _, _, _, _, _, _, _, _, _, _, ho, hv⟩
    · cases h0
  · cases h0
end
/-- the __init__'s shape: self, v; super().__init__(v); self.f = v -/
def iniBody (f a0 a1 : Str) : List Stmt → Bool
  | [.Expr (.Call (.Attribute (.Call (.Name s0 _) [] [] _) m p2) [.Name x1 _] [] p4) _, .Assign [.Attribute (.Name x0 _) f' _] (.Name x2 _) _] => decide (s0 = "super") && decide (m = "__init__") && decide (x1 = a1) && decide (x0 = a0) && decide (f' = f) && decide (x2 = a1) && (p2.endLine == p4.line)
  | _ => false
def iniPar (a0 a1 : Str) : Arguments → Bool
  | ⟨[], [⟨x0, _, _⟩, ⟨x1, _, _⟩], none, [], [], none, []⟩ => decide (x0 = a0) && decide (x1 = a1)
  | _ => false
def iniFn (K : PySem.W.Frag) (P : Program) (C : Addr) (f a0 a1 : Str) (fI : Addr) : Bool := match K.lookup fI with
  | some ⟨.type t, _, .func fd, _⟩ => decide (t = "function") && (match fd with
    | ⟨name, qual, ar, .stmts body, sc, gl, [(cn, cc)], .none, kV, doc, pm, an, .ref cda, ct, bi⟩ => decide (gl = mainGlobals) && decide (bi = builtinsNs) && decide (cn = "__class__") && PySem.W.codeIn K (.ref cda) qual &&
      (match K.lookup cda with
      | some ⟨_, _, .fields vs, _⟩ => (match vs[2]? with
        | some (Value.str file _) => (P.main.file == file)
        | _ => false)
      | _ => false) &&
      (match K.lookup cc with
      | some ⟨_, _, .cell (some (.ref C')), _⟩ => decide (C' = C)
      | _ => false) && iniPar a0 a1 ar && iniBody f a0 a1 body &&
      decide (sc.kind = .function) && !sc.isCoroutine && !sc.isGenerator && decide (sc.names.lookup ("super" : Str) = some .globalImplicit) && decide (sc.names.lookup ("__class__" : Str) = some .free) && decide (sc.names.lookup a0 = some .local) && decide (sc.names.lookup a1 = some .local) && sc.names.all (fun x => !decide (x.2 = .cell))
    | _ => false)
  | _ => false
def iniB (K : PySem.W.Frag) (P : Program) (C : Addr) (f a0 a1 : Str) : Bool :=
  oexB K C && decide (PySem.W.findIn K (.ref C) f = some none) && (PySem.W.clsIn K C).isSome && decide (PySem.W.mroIn K C (.ref C) = some true) && decide (PySem.W.subIn K (.ref C) (.type "ValueError") = some true) && decide (PySem.W.nsIn K cStatics "thirdparty.any" = some none) &&
  decide (PySem.W.ks_superIn K C C "__init__" = some (some (.builtin "ValueError.__init__"))) && (match PySem.W.findIn K (.ref C) "__init__" with
    | some (some (.ref fI)) => iniFn K P C f a0 a1 fI
    | _ => false) && !(P.main.scope.names.lookup ("super" : Str)).isSome && decide (PySem.W.nsIn K mainGlobals "super" = some none) && decide (a0 ≠ a1) && okn a0 && okn a1
theorem iniB_ok {K : PySem.W.Frag} {P : Program} {C : Addr} {f a0 a1 : Str} {h : Heap} {mg : Str → Option Value} (KX : K.In h) (G : h.Ns mainGlobals mg) (q : iniB K P C f a0 a1 = true) : ∃ fI body sc, IniB K P mg C f fI a0 a1 body sc := by
  unfold iniB at q
  simp only [Bool.and_eq_true, decide_eq_true_eq, Bool.not_eq_true'] at q
  obtain ⟨⟨⟨⟨⟨⟨⟨⟨⟨⟨⟨⟨q1, q2⟩, q3⟩, q4⟩, q5⟩, q6⟩, q7⟩, q8⟩, q9⟩, q10⟩, q11⟩, q12⟩, q13⟩ := q
  split at q8
  · rename_i fI hfI
    unfold iniFn at q8
    split at q8
    · rename_i t od fd osl lk
      rw [Bool.and_eq_true] at q8
      obtain ⟨ht, q8⟩ := q8
      have ht := of_decide_eq_true ht
      subst ht
      split at q8
      · rename_i name qual ar body sc gl cn cc kV doc pm an cda ct bi
        simp only [Bool.and_eq_true, decide_eq_true_eq, Bool.not_eq_true', List.all_eq_true, decide_eq_false_iff_not] at q8
        obtain ⟨⟨⟨⟨⟨⟨⟨⟨⟨⟨⟨⟨⟨⟨⟨rfl, rfl⟩, rfl⟩, r1⟩, r2⟩, r3⟩, r4⟩, r5⟩, r6⟩, r7⟩, r8⟩, r9⟩, r10⟩, r11⟩, r12⟩, r13⟩ := q8
        split at r2
        · rename_i y1 y2 vs y3 hcode
          split at r2
          · rename_i file tf hvs
            split at r3
            · rename_i z1 z2 C' z3 hcell
              have r3 := of_decide_eq_true r3
              subst r3
              unfold iniPar at r4
              split at r4
              · rename_i x0 an0 p0 x1 an1 p1
                simp only [Bool.and_eq_true, decide_eq_true_eq] at r4
                obtain ⟨rfl, rfl⟩ := r4
                unfold iniBody at r5
                split at r5
                · rename_i s0 b0 b1 m b2 x1' b3 b4 b5 x0' b6 f' b7 x2' b8 b9
                  simp only [Bool.and_eq_true, decide_eq_true_eq] at r5
                  obtain ⟨⟨⟨⟨⟨⟨rfl, rfl⟩, e3⟩, e4⟩, e5⟩, e6⟩, e7⟩ := r5
                  subst x1' x0' f' x2'
                  refine ⟨fI, _, sc, oexB_ok q1, q2, hfI, Option.isSome_iff_exists.mp q3, q4, q5, q6, q7, ⟨_, od, name, qual, _, kV, doc, pm, ct, an, cda, cc, osl, lk, rfl, r1, ⟨y1, y2, vs, y3, file, tf, hcode, hvs, r2⟩, ⟨z1, z2, z3, hcell⟩, ⟨an0, an1, p0, p1, rfl⟩⟩, q9, PySem.W.mg_none_of KX G q10, r6, r7, r8, q11, r9, r10, r11, r12, r13, (okn2 q12).1, (okn2 q13).1, ⟨_, _, _, _, _, _, _, _, _, _, e7, rfl⟩⟩
                · cases r5
              · cases r4
            · cases r3
          · cases r2
        · cases r2
      · cases q8
    · cases q8
  · cases q8
/-! ### the classes -/
/-- an exception class: its name; its field, its __init__'s names -/
abbrev EcD := Str × Option (Str × Str × Str)
def ecB (K : PySem.W.Frag) (P : Program) (x : EcD) : Bool := decide (PySem.W.nsIn K mainGlobals x.1 = some (some (.ref (He.ga K x.1)))) && PySem.W.keepIn K (.ref (He.ga K x.1)) && decide (PySem.W.subIn K (.ref (He.ga K x.1)) (.type "BaseException") = some true) && decide (PySem.W.typeIn K (.ref (He.ga K x.1)) = some (.type "type")) && (match x.2 with
  | none => PySem.W.excIn K (He.ga K x.1) He.veBase "ValueError.__new__"
  | some (f, a0, a1) => iniB K P (He.ga K x.1) f a0 a1)
def ecOf (K : PySem.W.Frag) (l : List EcD) (c : Nat) : Addr := match l[c]? with
  | some x => He.ga K x.1
  | none => 0
def efOf (l : List EcD) (c : Nat) : Option Str := match l[c]? with
  | some (_, some (f, _, _)) => some f
  | _ => none
def enOf (l : List EcD) : List (Str × Bool) := l.map fun x => (x.1, x.2.isSome)
theorem ec_ok {K : PySem.W.Frag} {P : Program} {h : Heap} {mg : Str → Option Value} {l : List EcD} {C : Cn} (KX : K.In h) (G : h.Ns mainGlobals mg) (hC : C.ec = ecOf K l) (hF : C.ef = efOf l) (q : l.all (ecB K P) = true) : ∀ (c : Nat) (x : Str × Bool), (enOf l)[c]? = some x → Ec C K P mg c x := fun c x hx => by
  unfold enOf at hx
  rw [List.getElem?_map] at hx
  cases e : l[c]? with
  | none => rw [e] at hx; cases hx
  | some y =>
    rw [e] at hx
    cases hx
    have q := List.all_eq_true.mp q y (List.mem_of_getElem? e)
    unfold ecB at q
    simp only [Bool.and_eq_true, decide_eq_true_eq] at q
    obtain ⟨⟨⟨⟨q1, q2⟩, q3⟩, q4⟩, q5⟩ := q
    have ea : C.ec c = He.ga K y.1 := by rw [hC]; unfold ecOf; rw [e]
    obtain ⟨n, o⟩ := y
    refine ⟨by rw [ea]; exact PySem.W.mg_of KX G q1, by rw [ea]; exact q2, by rw [ea]; exact q3, by rw [ea]; exact q4, fun z => ?_, fun z => ?_⟩
    · cases o with
      | none => exact ⟨by rw [hF]; unfold efOf; rw [e], by rw [ea]; exact q5⟩
      | some p => cases z
    · cases o with
      | none => cases z
      | some p =>
        obtain ⟨f, a0, a1⟩ := p
        obtain ⟨fI, body, sc, B⟩ := iniB_ok KX G q5
        exact ⟨f, fI, a0, a1, body, sc, by rw [hF]; unfold efOf; rw [e], by rw [ea]; exact B⟩
/-! ### the word def -/
def excB (K : PySem.W.Frag) (D : Addr) : Bool := decide (PySem.W.findIn K (.ref D) "__getattribute__" = some (some (.builtin "BaseException.__getattribute__"))) && decide (PySem.W.findIn K (.ref D) "__getattr__" = some none) && decide (PySem.W.subIn K (.ref D) (.type "BaseException") = some true) && PySem.W.hasDictIn K D &&
  decide (PySem.W.findIn K (.ref D) "__class__" = some (some (.builtin "object.__class__"))) && decide (PySem.W.specialIn K (.builtin "object.__class__") "__get__" = some (some (.builtin "getset_descriptor.__get__"))) && decide (PySem.W.takesIn K (.builtin "object.__class__") = some true) && decide (PySem.W.mroIn K D (.type "object") = some true)
theorem excB_ok {K : PySem.W.Frag} {D : Addr} (h : excB K D = true) : ExcC K D := by
  unfold excB at h
  simp only [Bool.and_eq_true, decide_eq_true_eq] at h
  obtain ⟨⟨⟨⟨⟨⟨⟨h1, h2⟩, h3⟩, h4⟩, h5⟩, h6⟩, h7⟩, h8⟩ := h
  exact ⟨h1, h2, h3, h4, h5, h6, h7, h8⟩
def isaK (K : PySem.W.Frag) (l : List EcD) (c : Nat) (x : Str) : Option Bool := if x = "ValueError" then PySem.W.kitOne K (.ref (ecOf K l c)) (.type "ValueError") else if x ∈ l.map (·.1) then PySem.W.kitOne K (.ref (ecOf K l c)) (.ref (He.ga K x)) else none
/-- what the suite leaves -/
def endB (ifd : Nat) (p : Str × Bool) : Option HS → Bool
  | some S => (match hGet S ifd with
    | some (.pr x) => p.2 && decide (x = p.1)
    | some (.st x) => !p.2 && decide (x = p.1)
    | _ => false)
  | none => false
structure WdD where
  wd : List (Str × Bool)
  jN : Str
  n : Nat
  ifd : Nat
  ie : Nat
  l : List HX
def wdB1 (K : PySem.W.Frag) (l : List EcD) (D : WdD) (c : Nat) : Bool := match nth D.wd c with
  | some p => decide (PySem.W.exmOne K (.ref (ecOf K l c)) (.ref (He.ga K D.jN)) = some true) && excB K (ecOf K l c) && (match efOf l c with
    | some f => xfB K (ecOf K l c) && decide (PySem.W.findIn K (.ref (ecOf K l c)) f = some none) && p.2
    | none => !p.2) && endB D.ifd p (hxS (isaK K l c) (efOf l c) D.ie D.l (List.replicate D.n none))
  | none => true
def wdB (K : PySem.W.Frag) (l : List EcD) (D : WdD) : Bool := decide (D.jN ∈ l.map (·.1)) && decide (PySem.W.nsIn K mainGlobals "isinstance" = some none) && decide (PySem.W.nsIn K mainGlobals "ValueError" = some none) && (List.range D.wd.length).all (wdB1 K l D)
theorem wdC_ok {K : PySem.W.Frag} {P : Program} {h : Heap} {mg : Str → Option Value} {l : List EcD} {C : Cn} {D : WdD} (KX : K.In h) (G : h.Ns mainGlobals mg) (hC : C.ec = ecOf K l) (hF : C.ef = efOf l) (q : l.all (ecB K P) = true) (w : wdB K l D = true) :
    mg D.jN = some (.ref (He.ga K D.jN)) ∧ mg "isinstance" = none ∧ WdC C D.wd K mg (He.ga K D.jN) D.n D.ifd D.ie D.l (isaK K l) := by
  have gl : ∀ x, x ∈ l.map (·.1) → mg x = some (.ref (He.ga K x)) := fun x hx => by
    obtain ⟨y, hy, rfl⟩ := List.mem_map.mp hx
    have q := List.all_eq_true.mp q y hy
    unfold ecB at q
    simp only [Bool.and_eq_true, decide_eq_true_eq] at q
    exact PySem.W.mg_of KX G q.1.1.1.1
  unfold wdB at w
  simp only [Bool.and_eq_true, decide_eq_true_eq] at w
  obtain ⟨⟨⟨w1, w2⟩, w3⟩, w4⟩ := w
  refine ⟨gl _ w1, PySem.W.mg_none_of KX G w2, ⟨fun c p hp => ?_⟩⟩
  have hc : c < D.wd.length := by
    rw [nth_eq] at hp
    exact (List.getElem?_eq_some_iff.mp hp).1
  have w5 := List.all_eq_true.mp w4 c (List.mem_range.mpr hc)
  unfold wdB1 at w5
  rw [hp] at w5
  simp only [Bool.and_eq_true, decide_eq_true_eq] at w5
  obtain ⟨⟨⟨v1, v2⟩, v3⟩, v4⟩ := w5
  rw [hC, hF]
  refine ⟨v1, ⟨excB_ok v2, fun f hf => ?_⟩, fun x b hx => ?_, ?_, ?_⟩
  · rw [hf] at v3
    simp only [Bool.and_eq_true, decide_eq_true_eq] at v3
    exact ⟨xfB_ok v3.1.1, v3.1.2⟩
  · unfold isaK at hx
    by_cases e1 : x = "ValueError"
    · rw [if_pos e1] at hx
      exact .inl ⟨e1, by rw [e1]; exact PySem.W.mg_none_of KX G w3, hx⟩
    · rw [if_neg e1] at hx
      by_cases e2 : x ∈ l.map (·.1)
      · rw [if_pos e2] at hx
        exact .inr ⟨_, gl _ e2, hx⟩
      · rw [if_neg e2] at hx; cases hx
  · cases e : efOf l c with
    | none => rw [e] at v3; simp at v3; simp [v3]
    | some f => rw [e] at v3; simp only [Bool.and_eq_true] at v3; simp [v3.2]
  · unfold endB at v4
    split at v4
    · rename_i S hS
      split at v4
      · rename_i x hx
        simp only [Bool.and_eq_true, decide_eq_true_eq] at v4
        exact ⟨S, hS, by rw [hx, if_pos v4.1, v4.2]⟩
      · rename_i x hx
        simp only [Bool.and_eq_true, decide_eq_true_eq, Bool.not_eq_true'] at v4
        exact ⟨S, hS, by rw [hx, v4.1, v4.2]; rfl⟩
      · cases v4
    · cases v4
end
end Jw

/-! From the head's facts to the promises of the program's defs. -/
namespace Jw
open PySem PySem.Spec PyProof.Rows L2
noncomputable section
def isFn : Stmt → Bool
  | .FunctionDef .. => true
  | _ => false
def defsOf (p : Program) : List Stmt := p.main.body.filter isFn
def noSt : Stmt := .Pass ⟨0, 0, 0, 0⟩
def dName : Stmt → Str
  | .FunctionDef n _ _ _ _ _ _ _ _ _ => n
  | _ => ⟨#[]⟩
def dPs (st : Stmt) : List Str := (defArgs st).args.map (·.arg)
def mkD (st : Stmt) : He.DefD := ⟨(dName st, none), dName st, dName st, defArgs st, defBody st, defScope st, [], []⟩
/-- a method's qualified name -/
def mQ (p : Str × Stmt) : Str := p.1 ++ "." ++ dName p.2
def mkM (p : Str × Stmt) : He.DefD := ⟨(p.1, some (dName p.2)), dName p.2, mQ p, defArgs p.2, defBody p.2, defScope p.2, [], []⟩
/-- the methods of the classes cn -/
def clsBody (p : Program) (x : Str) : List Stmt := (p.main.body.filterMap fun s => match s with
  | .ClassDef n _ _ b _ _ _ _ _ _ _ => if n = x then some (b.filter isFn) else none
  | _ => none).flatten
def atsL (ds : List Stmt) (md : List (Str × Stmt)) : List (Str × Option Str) := ds.map (fun st => (dName st, none)) ++ md.map fun p => (p.1, some (dName p.2))
def fnsL (ds : List Stmt) (md : List (Str × Stmt)) : List He.DefD := ds.map mkD ++ md.map mkM
def nmL (ds : List Stmt) : List (Str × Nat) := ds.map fun st => (dName st, (dPs st).length)
def faC (ci : CI) (md : List (Str × Stmt)) : List He.Fa := ci.cn.map .cls ++ (ci.cn.map .glo ++ (ci.cn.map .mkr ++ ((ci.cn.flatMap fun x => ci.fl.map fun f => .noat x f) ++ md.map fun p => .meth p.1 (dName p.2))))
def faL (ds : List Stmt) (gn : List (Str × Int)) (ci : CI) (md : List (Str × Stmt)) : List He.Fa := ds.map (fun st => .glo (dName st)) ++ (bltN.map .free ++ (gn.map (fun g => .int g.1 g.2) ++ faC ci md))
/-- a look at the names of a def's scope -/
def scB (N P : List Str) (sc : Scope) : Bool :=
  decide (sc.kind = .function) && !sc.isCoroutine && !sc.isGenerator && decide N.Nodup && decide (N.take P.length = P) && P.all (fun x => decide (sc.names.lookup x = some .local) || decide (sc.names.lookup x = some .cell)) && sc.names.all (fun y => !decide (y.2 = .free))
theorem scB_ok {N P : List Str} {sc : Scope} (h : scB N P sc = true) : FnScope N P sc := by
  unfold scB at h
  simp only [Bool.and_eq_true, Bool.not_eq_true', decide_eq_true_eq, List.all_eq_true, Bool.or_eq_true, decide_eq_false_iff_not] at h
  obtain ⟨⟨⟨⟨⟨⟨h1, h2⟩, h3⟩, h4⟩, h5⟩, h6⟩, h7⟩ := h
  exact ⟨h1, h2, h3, h4, h5, h6, h7⟩
/-- one def's check -/
def chk1 (nm : List (Str × Nat)) (gn : List Str) (lf : List (Str × Option Str)) (en : List (Str × Bool)) (wd : Option Str) (ci : CI) (st : Stmt) (N : List Str) (d : Df) : Bool := match d with
  | .draw => true
  | .word => true
  | .fn f => scB N (dPs st) (defScope st) && Nat.beq N.length f.n && chkS nm gn 1000 ⟨N, defScope st, fun _ => true, decide ((dName st, none) ∈ lf), en, wd, ci⟩ (defBody st) f.b
def chkM (nm : List (Str × Nat)) (gn : List Str) (lf : List (Str × Option Str)) (en : List (Str × Bool)) (wd : Option Str) (ci : CI) (c : Str) (st : Stmt) (N : List Str) (d : Df) : Bool := match d with
  | .fn f => scB N (dPs st) (defScope st) && Nat.beq N.length f.n && chkS nm gn 1000 ⟨N, defScope st, fun _ => true, decide ((c, some (dName st)) ∈ lf), en, wd, ci⟩ (defBody st) f.b
  | _ => false
def chkMs (nm : List (Str × Nat)) (gn : List Str) (lf : List (Str × Option Str)) (en : List (Str × Bool)) (wd : Option Str) (ci : CI) : List (Str × Stmt) → List (List Str) → List Df → Bool
  | [], [], [] => true
  | p :: sts, N :: Ns, d :: ds => chkM nm gn lf en wd ci p.1 p.2 N d && chkMs nm gn lf en wd ci sts Ns ds
  | _, _, _ => false
theorem chkMs_at {nm : List (Str × Nat)} {gn : List Str} {lf : List (Str × Option Str)} {en : List (Str × Bool)} {wd : Option Str} {ci : CI} : ∀ {sts : List (Str × Stmt)} {Ns : List (List Str)} {ds : List Df}, chkMs nm gn lf en wd ci sts Ns ds = true → ∀ (j : Nat) (p : Str × Stmt), sts[j]? = some p → ∃ N f, ds[j]? = some (.fn f) ∧ scB N (dPs p.2) (defScope p.2) = true ∧ N.length = f.n ∧ chkS nm gn 1000 ⟨N, defScope p.2, fun _ => true, decide ((p.1, some (dName p.2)) ∈ lf), en, wd, ci⟩ (defBody p.2) f.b = true
  | [], [], [], _, j, st, h => by simp at h
  | s :: sts, N :: Ns, d :: ds, h, 0, st, hs => by
    unfold chkMs at h
    rw [Bool.and_eq_true] at h
    simp at hs; subst hs
    have h := h.1
    unfold chkM at h
    cases d with
    | fn f =>
      simp only [Bool.and_eq_true] at h
      exact ⟨N, f, rfl, h.1.1, Nat.eq_of_beq_eq_true h.1.2, h.2⟩
    | _ => cases h
  | s :: sts, N :: Ns, d :: ds, h, j + 1, st, hs => by
    unfold chkMs at h
    rw [Bool.and_eq_true] at h
    obtain ⟨N', f, e1, e2⟩ := chkMs_at h.2 j st (by simpa using hs)
    exact ⟨N', f, by simpa using e1, e2⟩
  | [], [], _ :: _, h, _, _, _ => by cases h
  | [], _ :: _, _, h, _, _, _ => by cases h
  | _ :: _, [], _, h, _, _, _ => by cases h
  | _ :: _, _ :: _, [], h, _, _, _ => by cases h
def chkAll (nm : List (Str × Nat)) (gn : List Str) (lf : List (Str × Option Str)) (en : List (Str × Bool)) (wd : Option Str) (ci : CI) : List Stmt → List (List Str) → List Df → Bool
  | [], [], [] => true
  | st :: sts, N :: Ns, d :: ds => chk1 nm gn lf en wd ci st N d && chkAll nm gn lf en wd ci sts Ns ds
  | _, _, _ => false
/-- a class's methods are as the table says -/
def clM (ci : CI) (n0 : Nat) (md : List (Str × Stmt)) (x : Str) (t : Nat × Nat × Nat) : Bool := match ci.mn[t.1]?, md[t.2.1 - n0]? with
  | some y, some (x', st) => decide (x' = x) && decide (dName st = y) && Nat.beq (dPs st).length t.2.2 && Nat.ble n0 t.2.1 && (!Nat.beq t.1 0 || decide (y = "__init__"))
  | _, _ => false
def clB (ci : CI) (n0 : Nat) (md : List (Str × Stmt)) (cl : List (List (Nat × Nat × Nat))) : Bool := decide ci.fl.Nodup && (ci.mn.all fun y => !decide (y ∈ ci.fl)) && Nat.beq cl.length ci.cn.length &&
  (List.range ci.cn.length).all fun c => match ci.cn[c]?, nth cl c with
    | some x, some l => l.all (clM ci n0 md x) && (methOf 0 l).isSome
    | _, _ => false
theorem methOf_mem {k : Nat} {q : Nat × Nat} : ∀ {l : List (Nat × Nat × Nat)}, methOf k l = some q → (k, q) ∈ l
  | [], h => by cases h
  | p :: ps, h => by
    have h : ifB (Nat.beq p.1 k) (some p.2) (methOf k ps) = some q := h
    cases hb : Nat.beq p.1 k with
    | true =>
      rw [hb] at h
      cases (show some p.2 = some q from h)
      rw [← Nat.eq_of_beq_eq_true hb]
      exact List.mem_cons_self
    | false =>
      rw [hb] at h
      exact List.mem_cons_of_mem _ (methOf_mem h)
theorem chkAll_at {nm : List (Str × Nat)} {gn : List Str} {lf : List (Str × Option Str)} {en : List (Str × Bool)} {wd : Option Str} {ci : CI} : ∀ {sts : List Stmt} {Ns : List (List Str)} {ds : List Df}, chkAll nm gn lf en wd ci sts Ns ds = true → ∀ (j : Nat) (st : Stmt), sts[j]? = some st → ∃ N d, Ns[j]? = some N ∧ ds[j]? = some d ∧ chk1 nm gn lf en wd ci st N d = true
  | [], [], [], _, j, st, h => by simp at h
  | s :: sts, N :: Ns, d :: ds, h, 0, st, hs => by
    unfold chkAll at h
    rw [Bool.and_eq_true] at h
    simp at hs; subst hs
    exact ⟨N, d, rfl, rfl, h.1⟩
  | s :: sts, N :: Ns, d :: ds, h, j + 1, st, hs => by
    unfold chkAll at h
    rw [Bool.and_eq_true] at h
    obtain ⟨N', d', e1, e2, e3⟩ := chkAll_at h.2 j st (by simpa using hs)
    exact ⟨N', d', by simpa using e1, by simpa using e2, e3⟩
  | [], [], _ :: _, h, _, _, _ => by cases h
  | [], _ :: _, _, h, _, _, _ => by cases h
  | _ :: _, [], _, h, _, _, _ => by cases h
  | _ :: _, _ :: _, [], h, _, _, _ => by cases h
/-- how a def's arguments are bound -/
def BindP (st : Stmt) : Prop := ∀ (q : Str) (kV doc pm : Value) (an : Option Addr) (cdv ct : Value) (us : List Value), us.length = (dPs st).length →
  bindArgs (PySem.W.fnOf (dName st) q (defArgs st) (defBody st) (defScope st) .none kV doc pm an cdv ct) ⟨us, []⟩ = pure ((dPs st).zip us)
inductive AllP (p : Stmt → Prop) : List Stmt → Prop
  | nil : AllP p []
  | cons {s : Stmt} {l : List Stmt} : p s → AllP p l → AllP p (s :: l)
theorem AllP.at {p : Stmt → Prop} : ∀ {l : List Stmt} {j : Nat} {s : Stmt}, AllP p l → l[j]? = some s → p s
  | _, _, _, .nil, h => by simp at h
  | _, 0, _, .cons h _, e => by simp at e; subst e; exact h
  | _, j + 1, _, .cons _ t, e => t.at (j := j) (by simpa using e)
theorem fun_of {K : PySem.W.Frag} {st : Stmt} {q : Str} {f : Addr} {fd : FuncData} (F : FunD K (dName st) q (defArgs st) (defBody st) (defScope st) [] [] f fd) : L2.Fun K (dName st) q st f fd := by
  obtain ⟨oc, od, dV, kV, doc, pm, an, cdv, ct, osl, e, lk, hcd, hD, hK⟩ := F.ex
  rcases hD with ⟨_, rfl⟩ | ⟨e, _⟩
  · exact ⟨⟨oc, od, kV, doc, pm, an, cdv, ct, osl, e, lk, hcd⟩, F.kp⟩
  · exact absurd rfl e
section
variable {C : Cn} {Γ : Pg} {P : Program} {w : World} {K : PySem.W.Frag} {mg : Str → Option Value} {base h : Heap}
section
variable {ds : List Stmt} {gnv : List (Str × Int)} {ci : CI} {md : List (Str × Stmt)}
abbrev SaysP (ds : List Stmt) (gnv : List (Str × Int)) (ci : CI) (md : List (Str × Stmt)) (K : PySem.W.Frag) : Prop := He.SaysD (faL ds gnv ci md) (fnsL ds md) K
theorem fact_of (c : SaysP ds gnv ci md K) {f : He.Fa} (hf : f ∈ faL ds gnv ci md) : f.ok K = true := by
  obtain ⟨i, hi⟩ := List.getElem?_of_mem hf
  exact c.fact i hi
theorem factC_of (c : SaysP ds gnv ci md K) {f : He.Fa} (hf : f ∈ faC ci md) : f.ok K = true := fact_of c (by unfold faL; exact List.mem_append_right _ (List.mem_append_right _ (List.mem_append_right _ hf)))
def clOf (K : PySem.W.Frag) (cn : List Str) (c : Nat) : Addr := match cn[c]? with
  | some x => He.ga K x
  | none => 0
theorem clOf_eq {cn : List Str} {c : Nat} {x : Str} (h : cn[c]? = some x) : clOf K cn c = He.ga K x := by unfold clOf; rw [h]
theorem kl_of {cl : List (List (Nat × Nat × Nat))} {n0 : Nat} (KX : K.In h) (G : h.Ns mainGlobals mg) (c : SaysP ds gnv ci md K) (hci : ciOf C = ci) (hcl : C.cl = clOf K ci.cn) (hB : clB ci n0 md cl = true) : Kl C K mg := by
  have e1 : C.fl = ci.fl := by rw [← hci]; rfl
  have e2 : C.mn = ci.mn := by rw [← hci]; rfl
  have e3 : C.cn = ci.cn := by rw [← hci]; rfl
  unfold clB at hB
  simp only [Bool.and_eq_true, decide_eq_true_eq] at hB
  obtain ⟨⟨⟨b1, b2⟩, _⟩, _⟩ := hB
  refine ⟨by rw [e1]; exact b1, fun m hm => ?_, fun k x hx => ?_, fun k x hx f hf => ?_, fun k x hx => ?_⟩
  · rw [e2] at hm
    rw [e1]
    have := List.all_eq_true.mp b2 m hm
    simpa using this
  · rw [e3] at hx
    rw [hcl, clOf_eq hx]
    exact He.cls_ok (factC_of c (by unfold faC; exact List.mem_append_left _ (List.mem_map_of_mem (List.mem_of_getElem? hx))))
  · rw [e3] at hx
    rw [e1] at hf
    rw [hcl, clOf_eq hx]
    exact He.noat_ok (factC_of c (by unfold faC; exact List.mem_append_right _ (List.mem_append_right _ (List.mem_append_right _ (List.mem_append_left _ (List.mem_flatMap.mpr ⟨x, List.mem_of_getElem? hx, List.mem_map_of_mem hf⟩))))))
  · rw [e3] at hx
    rw [hcl, clOf_eq hx]
    exact He.glo_ok KX G (factC_of c (by unfold faC; exact List.mem_append_right _ (List.mem_append_left _ (List.mem_map_of_mem (List.mem_of_getElem? hx)))))
theorem bl_of (KX : K.In h) (G : h.Ns mainGlobals mg) (c : SaysP ds gnv ci md K) (hgv : Γ.gv = gnv.map fun g => W.int g.2) (R : Rng Γ C) (kl : Kl C K mg) : Bl C Γ (gnv.map (·.1)) K mg := by
  refine ⟨fun x hx => ?_, fun j x hj => ?_, R, kl⟩
  · exact He.free_ok KX G (fact_of c (by unfold faL; exact List.mem_append_right _ (List.mem_append_left _ (List.mem_map_of_mem hx))))
  · rw [List.getElem?_map] at hj
    cases e : gnv[j]? with
    | none => rw [e] at hj; cases hj
    | some g =>
      rw [e] at hj
      cases hj
      obtain ⟨t, ht⟩ := He.int_ok KX G (fact_of c (f := .int g.1 g.2) (by unfold faL; exact List.mem_append_right _ (List.mem_append_right _ (List.mem_append_left _ (List.mem_map_of_mem (f := fun g : Str × Int => He.Fa.int g.1 g.2) (List.mem_of_getElem? e))))))
      refine ⟨_, .int g.2, ht, by rw [nth_eq, hgv, List.getElem?_map, e]; rfl, .int g.2, ⟨t, rfl⟩, fun H ι => .int g.2⟩
theorem def_top (c : SaysP ds gnv ci md K) {j : Nat} {st : Stmt} (e : ds[j]? = some st) : ∃ fd, FunD K (dName st) (dName st) (defArgs st) (defBody st) (defScope st) [] [] (He.ga K (dName st)) fd := by
  have hl : j < (ds.map mkD).length := by rw [List.length_map]; exact (List.getElem?_eq_some_iff.mp e).1
  exact c.def_ j (d := mkD st) (by unfold fnsL; rw [List.getElem?_append_left hl, List.getElem?_map, e]; rfl)
theorem glo_top (KX : K.In h) (G : h.Ns mainGlobals mg) (c : SaysP ds gnv ci md K) {j : Nat} {st : Stmt} (e : ds[j]? = some st) : mg (dName st) = some (.ref (He.ga K (dName st))) :=
  He.glo_ok KX G (fact_of c (by unfold faL; exact List.mem_append_left _ (List.mem_map_of_mem (f := fun st => He.Fa.glo (dName st)) (List.mem_of_getElem? e))))
theorem def_meth (c : SaysP ds gnv ci md K) {i : Nat} {p : Str × Stmt} (e : md[i]? = some p) : ∃ fd, FunD K (dName p.2) (mQ p) (defArgs p.2) (defBody p.2) (defScope p.2) [] [] (He.fAd K (p.1, some (dName p.2))) fd := by
  exact c.def_ (ds.length + i) (d := mkM p) (by unfold fnsL; rw [List.getElem?_append_right (by rw [List.length_map]; omega), List.length_map, Nat.add_sub_cancel_left, List.getElem?_map, e]; rfl)
end
/-- the name of a lambda's code, in a def -/
def dQ (p : Str × Option Str) : Str := match p.2 with
  | none => p.1
  | some m => p.1 ++ "." ++ m
def lamQ (p : Str × Option Str) : Str := dQ p ++ ".<locals>." ++ "<lambda>"
def tabA (K : PySem.W.Frag) (p : Str × Option Str) : Addr := (He.cT K p).2
def tbOf (K : PySem.W.Frag) (lf : List (Str × Option Str)) : List (Addr × Str) := lf.map fun x => (tabA K x, lamQ x)
theorem map_inj {α β : Type} {f : α → β} : ∀ {l : List α}, (l.map f).Nodup → ∀ x ∈ l, ∀ y ∈ l, f x = f y → x = y
  | [], _, x, h, _, _, _ => by cases h
  | a :: l, h, x, hx, y, hy, e => by
    rw [List.map_cons, List.nodup_cons] at h
    rcases List.mem_cons.mp hx with ex | gx <;> rcases List.mem_cons.mp hy with ey | gy
    · rw [ex, ey]
    · rw [ex] at e
      exact absurd (e ▸ List.mem_map_of_mem gy) h.1
    · rw [ey] at e
      exact absurd (e ▸ List.mem_map_of_mem gx) h.1
    · exact map_inj h.2 x gx y gy e
theorem lmF_of {lf : List (Str × Option Str)} {x : Str × Option Str} {y : Str} {st : Stmt} {fd : FuncData} (hTB : ∀ x ∈ lf, LamX.TabB base mg (He.cT K x).1 (He.cT K x).2) (hC : C.tb = tbOf K lf) (hnd : (lf.map (tabA K)).Nodup) (FU : L2.Fun K y (dQ x) st (He.fAd K x) fd) : LmF C base mg (dQ x) fd (decide (x ∈ lf)) := fun z => by
  have hx := of_decide_eq_true z
  obtain ⟨oc, od, _, _, _, _, cdv, _, osl, e, lk, hcd⟩ := FU.ex
  obtain ⟨c, ec⟩ := He.codeIn_ref hcd
  have hc : fd.code = .ref c := by rw [e, ← ec]
  have ecd : He.codeOf K x = c := He.codeOf_eq (p := x) lk hc
  refine ⟨_, _, hTB x hx, by show fd.code = .ref (He.codeOf K x); rw [ecd]; exact hc, by rw [hC]; exact List.mem_map_of_mem (f := fun x => (tabA K x, lamQ x)) hx, fun q hq e1 => ?_⟩
  rw [hC] at hq
  obtain ⟨y, hy, rfl⟩ := List.mem_map.mp hq
  rw [map_inj hnd y hy x hx e1]
  rfl
/-- the word def's promise -/
theorem word_ok {D : WdD} {l : List EcD} {st : Stmt} {x : Str} {f : Addr} {fd : FuncData} {N : List Str} {aN fN eN : Str} (KX : K.In h) (G : h.Ns mainGlobals mg) (hC : C.ec = ecOf K l) (hF : C.ef = efOf l) (q : l.all (ecB K P) = true) (w1 : wdB K l D = true) (hwd : Γ.wd = D.wd)
    (FU : L2.Fun K x x st f fd) (hm : mg x = some (.ref f)) (hk : PySem.W.keepIn K (.ref f) = true) (hb : Binds K fd [aN] []) (hs : scB N [aN] (defScope st) = true) (hlo : loN N (defScope st) aN 0 = true) (hn : N.length = D.n)
    (hkw : kWd N (defScope st) D.ifd D.ie aN fN eN D.jN D.l (defBody st) = true) : ∀ X : Cx, X.prog = P → X.K = K → X.mg = mg → WordOk C Γ X x := fun X e1 e2 e3 => by
  obtain ⟨oc, od, kV, doc, pm, an, cdv, ct, osl, efd, lk, hcd⟩ := FU.ex
  obtain ⟨m1, m2, W⟩ := wdC_ok KX G hC hF q w1
  have S := scB_ok hs
  have hlo2 := hlo
  unfold loN at hlo2
  simp only [Bool.and_eq_true, decide_eq_true_eq] at hlo2
  subst e2 e3
  refine ⟨aN, f, _, defBody st, defScope st, _, kV, doc, pm, cdv, ct, oc, an, od, osl, N, hm, hk, by rw [← efd]; rw [efd]; rw [efd] at lk; exact lk, hcd, by rw [← efd]; exact hb, S, hlo2.1.1, .inl hlo2.1.2, hlo2.2, fun hu q => ?_⟩
  rw [hwd]
  exact word_gives hkw S.nd S.kind m1 m2 (by rw [hn]; exact W) hu
theorem wo_of {ds : List Stmt} {gnv : List (Str × Int)} {ci : CI} {md : List (Str × Stmt)} {D : WdD} {l : List EcD} {j : Nat} {st : Stmt} {N : List Str} {aN fN eN : Str} (KX : K.In h) (G : h.Ns mainGlobals mg) (c : SaysP ds gnv ci md K) (hC : C.ec = ecOf K l) (hF : C.ef = efOf l) (q : l.all (ecB K P) = true) (w1 : wdB K l D = true) (hwd : Γ.wd = D.wd)
    (e : ds[j]? = some st) (hb : BindP st) (hps : dPs st = [aN]) (hs : scB N [aN] (defScope st) = true) (hlo : loN N (defScope st) aN 0 = true) (hn : N.length = D.n) (hkw : kWd N (defScope st) D.ifd D.ie aN fN eN D.jN D.l (defBody st) = true) :
    ∀ X : Cx, X.prog = P → X.K = K → X.mg = mg → WordOk C Γ X (dName st) := by
  obtain ⟨fd, F⟩ := def_top c e
  exact word_ok KX G hC hF q w1 hwd (fun_of F) (glo_top KX G c e) F.kp (by rw [← hps]; exact F.bindsN (hb _)) hs hlo hn hkw
theorem chkAll_len {nm : List (Str × Nat)} {gn : List Str} {lf : List (Str × Option Str)} {en : List (Str × Bool)} {wd : Option Str} {ci : CI} : ∀ {sts : List Stmt} {Ns : List (List Str)} {ds : List Df}, chkAll nm gn lf en wd ci sts Ns ds = true → ds.length = sts.length
  | [], [], [], _ => rfl
  | s :: sts, N :: Ns, d :: ds, h => by
    unfold chkAll at h
    rw [Bool.and_eq_true] at h
    rw [List.length_cons, List.length_cons, chkAll_len h.2]
  | [], [], _ :: _, h => by cases h
  | [], _ :: _, _, h => by cases h
  | _ :: _, [], _, h => by cases h
  | _ :: _, _ :: _, [], h => by cases h
theorem df0_of {ds : List Stmt} {Ns Nm : List (List Str)} {dft dfm : List Df} {gnv : List (Str × Int)} {ci : CI} {md : List (Str × Stmt)} {lf : List (Str × Option Str)} {l : List EcD} {wd : Option Str} (hTB : ∀ x ∈ lf, LamX.TabB base mg (He.cT K x).1 (He.cT K x).2) (hC : C.tb = tbOf K lf) (hnd : (lf.map (tabA K)).Nodup) (KX : K.In h) (G : h.Ns mainGlobals mg) (c : SaysP ds gnv ci md K) (hgv : Γ.gv = gnv.map fun g => W.int g.2) (R : Rng Γ C)
    (hci : ciOf C = ci) (hcl : C.cl = clOf K ci.cn) (hB : clB ci ds.length md Γ.cl = true) (hdf : Γ.df = dft ++ dfm)
    (hga : ∀ (j : Nat) (p : Str × Option Str), (atsL ds md)[j]? = some p → C.ga j = He.fAd K p) (har : Γ.ar = (nmL ds).map (·.2)) (hec : C.ec = ecOf K l) (hef : C.ef = efOf l) (hecB : l.all (ecB K P) = true)
    (hwo : ∀ (x : Str), wd = some x → ∀ X : Cx, X.prog = P → X.K = K → X.mg = mg → WordOk C Γ X x)
    (hchk : chkAll (nmL ds) (gnv.map (·.1)) lf (enOf l) wd ci ds Ns dft = true) (hchm : chkMs (nmL ds) (gnv.map (·.1)) lf (enOf l) wd ci md Nm dfm = true) (hb : AllP BindP ds) (hbm : AllP BindP (md.map (·.2)))
    (hdraw : ∀ (j : Nat) (st : Stmt), ds[j]? = some st → nth Γ.df j = some .draw → ∀ f fd, L2.Fun K (dName st) (dName st) st f fd → FnOk P w K mg base CX0 2 f fd (dPs st) (spF K C (dPs st).length fun ws m => drawW Γ ws m)) :
    Df0 C Γ (nmL ds) (gnv.map (·.1)) (enOf l) wd P w K mg base := by
  have kl := kl_of KX G c hci hcl hB
  have e3 : C.cn = ci.cn := by rw [← hci]; rfl
  have e2 : C.mn = ci.mn := by rw [← hci]; rfl
  have hl0 := chkAll_len hchk
  have key : ∀ (k : Nat) (x : Str), C.cn[k]? = some x → ∃ l, nth Γ.cl k = some l ∧ l.all (clM ci ds.length md x) = true ∧ (methOf 0 l).isSome = true := fun k x hx => by
    rw [e3] at hx
    unfold clB at hB
    simp only [Bool.and_eq_true] at hB
    have := List.all_eq_true.mp hB.2 k (List.mem_range.mpr (List.getElem?_eq_some_iff.mp hx).1)
    rw [hx] at this
    cases e : nth Γ.cl k with
    | none => rw [e] at this; cases this
    | some l =>
      rw [e] at this
      simp only [Bool.and_eq_true] at this
      exact ⟨l, rfl, this.1, this.2⟩
  refine ⟨har, fun j x k hj => ?_, ec_ok KX G hec hef hecB, hwo, bl_of KX G c hgv R kl, fun k0 k f np x l hx h1 h2 => ?_, fun k x hx => ?_⟩
  · unfold nmL at hj
    rw [List.getElem?_map] at hj
    cases e : ds[j]? with
    | none => rw [e] at hj; cases hj
    | some st =>
      rw [e] at hj
      cases hj
      have hjl := (List.getElem?_eq_some_iff.mp e).1
      obtain ⟨fd, F⟩ := def_top c e
      have hm := glo_top KX G c e
      have FU := fun_of F
      have eg : C.ga j = He.ga K (dName st) := hga j (dName st, none) (by
        unfold atsL
        rw [List.getElem?_append_left (by rw [List.length_map]; exact hjl), List.getElem?_map, e]; rfl)
      rw [← eg] at F hm FU
      obtain ⟨N, d, e1, e2, e3⟩ := chkAll_at hchk j st e
      refine ⟨fd, dPs st, hm, F.kp, F.bindsN (hb.at e _), rfl, ?_⟩
      have hd : nth Γ.df j = some d := by rw [nth_eq, hdf, List.getElem?_append_left (by rw [hl0]; exact hjl)]; exact e2
      cases d with
      | word => exact .inl hd
      | draw => exact .inr (.inl ⟨hd, hdraw j st e hd _ fd FU⟩)
      | fn f =>
        unfold chk1 at e3
        simp only [Bool.and_eq_true] at e3
        obtain ⟨⟨k1, k2⟩, k3⟩ := e3
        have S := scB_ok k1
        refine .inr (.inr ⟨st, f, N, hd, FU, S, Nat.eq_of_beq_eq_true k2, S.nd, _, ?_, by rw [hci]; exact k3⟩)
        have FU2 := FU
        rw [eg] at FU2
        exact lmF_of (x := (dName st, none)) hTB hC hnd FU2
  · obtain ⟨l', hl, hall, _⟩ := key k0 x hx
    rw [h1] at hl; cases hl
    have hm := List.all_eq_true.mp hall _ (methOf_mem h2)
    unfold clM at hm
    dsimp only at hm
    split at hm
    · rename_i y x' st hy hmd
      simp only [Bool.and_eq_true, decide_eq_true_eq] at hm
      obtain ⟨⟨⟨⟨rfl, rfl⟩, m3⟩, m4⟩, m5⟩ := hm
      have m3 := Nat.eq_of_beq_eq_true m3
      have m4 := Nat.le_of_ble_eq_true m4
      obtain ⟨fd, F⟩ := def_meth c hmd
      have FU : L2.Fun K (dName st) (mQ (x', st)) st _ fd := fun_of F
      have eg : C.ga f = He.fAd K (x', some (dName st)) := hga f (x', some (dName st)) (by
        unfold atsL
        rw [List.getElem?_append_right (by rw [List.length_map]; exact m4), List.length_map, List.getElem?_map, hmd]; rfl)
      rw [← eg] at F FU
      have ecl : C.cl k0 = He.ga K x' := by rw [hcl]; exact clOf_eq (by rw [← e3]; exact hx)
      have hM : Meth K (C.cl k0) (dName st) (C.ga f) := by
        rw [ecl, eg]
        exact He.meth_ok (x := x') (m := dName st) (factC_of c (by unfold faC; exact List.mem_append_right _ (List.mem_append_right _ (List.mem_append_right _ (List.mem_append_right _ (List.mem_map_of_mem (f := fun p : Str × Stmt => He.Fa.meth p.1 (dName p.2)) (List.mem_of_getElem? hmd)))))))
      obtain ⟨N, fb, g1, g2, g3, g4⟩ := chkMs_at hchm _ _ hmd
      have S := scB_ok g2
      refine ⟨dName st, mQ (x', st), fd, dPs st, by rw [e2]; exact hy, hM, F.bindsN (hbm.at (j := f - ds.length) (by rw [List.getElem?_map, hmd]; rfl) _), m3, fun hk => ?_, st, fb, N, ?_, FU, S, g3, S.nd, _, ?_, by rw [hci]; exact g4⟩
      · subst hk
        have m5 : dName st = "__init__" := by simpa using m5
        have mk := He.mkr_ok (x := x') (factC_of (K := K) c (by unfold faC; exact List.mem_append_right _ (List.mem_append_right _ (List.mem_append_left _ (List.mem_map_of_mem (List.mem_of_getElem? (by rw [← e3]; exact hx)))))))
        rw [ecl, eg, m5]
        exact mk
      · rw [nth_eq, hdf, List.getElem?_append_right (by rw [hl0]; exact m4), hl0]
        exact g1
      · have FU2 := FU
        rw [eg] at FU2
        exact lmF_of (x := (x', some (dName st))) hTB hC hnd FU2
    · cases hm
  · obtain ⟨l, h1, _, h2⟩ := key k x hx
    obtain ⟨⟨f, np⟩, h2⟩ := Option.isSome_iff_exists.mp h2
    exact ⟨l, f, np, h1, h2⟩
/-- the law's promise -/
def spLaw (K : PySem.W.Frag) (C : Cn) (Γ : Pg) (j : Nat) (n d : Nat) : Sp := fun vs H Q _ => spF K C 1 (fun ws m => callW Γ (ev Γ n) d j ws m) vs H Q fun _ _ _ => False
theorem allOk_post {K : PySem.W.Frag} {ι : Im} {H : Hp} : ∀ {r : RE W}, allOk r = true → PostE (QV K C ι H fun v _ => v = .bl true) r := fun {r} => by
  induction r with
  | ok w m =>
    intro h ι' H' v S l t q
    cases w with
    | bl b =>
      have h : b = true := h
      subst h
      cases q; rfl
    | _ => cases h
  | exc x m => intro h; cases h
  | er e => intro h; cases h
  | draw n k ih =>
    intro h d hd
    have h : ((List.range n).all fun k_1 => allOk (k (.int (Int.ofNat k_1)))) = true := h
    rw [List.all_eq_true] at h
    exact ih _ (h d (List.mem_range.mpr hd))
/-- the start -/
theorem law_sp {H : Hp} {a : Addr} {j n d : Nat} (hT : LamX.Tabs C.tb H) (so : ScrOk K C H) (ha : C.scr = a) (h : allOk (callW Γ (ev Γ n) d j [.ref []] m0) = true) : spLaw K C Γ j n d [.ref a] H (fun v _ => v = .bl true) (fun _ _ _ => False) := by
  subst ha
  refine ⟨rfl, fun n => if n = [] then some C.scr else none, m0, [.ref []], ⟨fun n o e => ?_, fun n n' a z _ e _ => ?_, fun n a e => ?_, fun n a z e => ?_, if_pos rfl, so, rfl, hT⟩, .cons (.ref (if_pos rfl)) .nil, PostE.toX (allOk_post h)⟩
  · cases n with
    | nil => cases e; exact ⟨C.scr, if_pos rfl, rfl⟩
    | cons b n =>
      have e : m0.get (b :: n) = some o := e
      have : m0.get (b :: n) = none := by
        cases b <;> exact get_nil n
      rw [this] at e; cases e
  · rw [if_neg z] at e; cases e
  · by_cases hn : n = []
    · subst hn; exact (by decide : val [] < val m0.next)
    · rw [if_neg hn] at e; cases e
  · rw [if_neg z] at e; cases e
/-- a list that is tracked may be frozen for a call -/
def orFrz (sp : Sp) : Sp := fun vs H Q E => sp vs H Q E ∨ ∃ (a : Addr) (xs : List V), H a = some (.lst xs) ∧ ∀ o, sp vs (upd H a (.frz o (.lst xs))) Q E
theorem fn_frz {k : Nat} {f : Addr} {fd : FuncData} {ps : List Str} {sp : Sp} (F : FnOk P w K mg base CX0 k f fd ps sp) : FnOk P w K mg base CX0 k f fd ps (orFrz sp) := by
  refine ⟨fun vs H Q E h => h.elim (F.len vs H Q E) fun ⟨a, xs, _, h⟩ => F.len vs _ Q E (h default), fun A outer s H args us vs Q E hr e0 hb r h => ?_⟩
  rcases h with h | ⟨a, xs, ha, h⟩
  · exact F.run A outer s H args us vs Q E hr e0 hb r h
  · obtain ⟨hz, its, ep, rv, hob⟩ := (show xs.length ≤ sizeLine ∧ ∃ (us : List Value) (ep : Nat), Vals xs us ∧ s.heap.get? a = some (seqObj "list" us.toArray ep) from e0.hok a _ ha)
    have at_ : ∀ b, b ≠ a → upd H a (.frz (seqObj "list" its.toArray ep) (.lst xs)) b = H b := fun b hb => upd_ne hb
    have nn : ∀ b, H b = none → b ≠ a := fun b e z => by rw [z, ha] at e; cases e
    have e1 : Env0 P w K mg base A outer s (upd H a (.frz (seqObj "list" its.toArray ep) (.lst xs))) := ⟨e0.frames, e0.mod, fun b o e => ⟨(e0.bs b o e).1, by rw [at_ b (nn b (e0.bs b o e).2)]; exact (e0.bs b o e).2⟩, e0.bsz, e0.funs, fun b hb => by rw [at_ b (nn b (e0.frf b hb))]; exact e0.frf b hb, fun b u e => by
      by_cases hba : b = a
      · subst hba
        rw [upd_same] at e
        cases e
        exact ⟨hob, hz, its, ep, rv, hob⟩
      · rw [at_ b hba] at e
        refine (e0.hok b u e).stay (fun _ _ _ q => q) (fun c q => ?_) fun c _ q => ?_
        · rw [at_ c (fun z => by rw [z, ha] at q; cases q)]; exact q
        · rw [at_ c (fun z => by rw [z, ha] at q; cases q)]; exact q, e0.bare⟩
    refine codeAny_mono (F.run A outer s _ args us vs Q E hr e1 hb r (h _)) fun rr s' hq => ?_
    cases rr with
    | error e => exact (show False from hq).elim
    | ok fl =>
      cases fl with
      | ret u =>
        obtain ⟨v, H', os, bare, un, hok, rv', q⟩ := hq
        refine ⟨v, H', os, bare, ⟨fun b o e n hb hx => un.keep b o e (by rw [at_ b (nn b n)]; exact n) hb hx, fun b o e n hb hx => un.slot b o e (by rw [at_ b (nn b n)]; exact n) hb hx, fun b o e n hx => un.free b o e (by rw [at_ b (nn b n)]; exact n) hx, un.there, fun b ys e => un.tups b ys ?_, fun b o ys e => un.frzs b o ys ?_, fun b qs e => un.tbls b qs ?_⟩, hok, rv', q⟩
        · rw [at_ b (fun z => by rw [z, ha] at e; cases e)]; exact e
        · rw [at_ b (fun z => by rw [z, ha] at e; cases e)]; exact e
        · rw [at_ b (fun z => by rw [z, ha] at e; cases e)]; exact e
      | next => exact False.elim hq
      | brk => exact False.elim hq
      | cont => exact False.elim hq
/-- the script at the start -/
theorem scr_start {H : Hp} {a : Addr} {ns : List Int} (h : SqL K H a (ns.map V.int)) (ha : C.scr = a) (hn : C.ns = ns) : ScrOk K C H ∨ H a = some (.lst (ns.map V.int)) := by
  subst ha hn
  rcases h with (q | ⟨o, q⟩) | q
  · exact .inr q
  · exact .inl (.inl ⟨o, q⟩)
  · exact .inl (.inr q)
theorem tabs_start {H : Hp} {lf : List (Str × Option Str)} (h : ∀ x ∈ lf, H (tabA K x) = some (.tbl #[])) : LamX.Tabs (tbOf K lf) H := fun p hp => by
  obtain ⟨x, hx, rfl⟩ := List.mem_map.mp hp
  exact LamX.TabS.nil (h x hx)
theorem tabs_frz {T : List (Addr × Str)} {H : Hp} {a : Addr} {xs : List V} {u : HO} (h : H a = some (.lst xs)) (t : LamX.Tabs T H) : LamX.Tabs T (upd H a u) := tabs_upd (.inl ⟨_, h⟩) t
def isDr : Option Df → Bool
  | some .draw => true
  | _ => false
def oneDr (l : List Df) (t : Nat) : Bool := (List.range l.length).all fun i => !isDr (nth l i) || Nat.beq i t
theorem oneDr_ok {l : List Df} {t i : Nat} (h : oneDr l t = true) (hi : nth l i = some .draw) : i = t := by
  unfold oneDr at h
  rw [List.all_eq_true] at h
  have hl : i < l.length := by
    rw [nth_eq] at hi
    exact (List.getElem?_eq_some_iff.mp hi).1
  have := h i (List.mem_range.mpr hl)
  rw [hi] at this
  exact Nat.eq_of_beq_eq_true this
/-- the head's word about the tables, for the end -/
def exB1 (lf : List (Str × Option Str)) (K : PySem.W.Frag) : Bool := decide (lf.map (tabA K)).Nodup
theorem lawAt {l : PySem.W.OpenLaw} {fa : List He.Fa} {fn : List He.DefD} {ts : List He.Tab} {lf : List (Str × Option Str)} {n k : Nat} {f : Addr} {fd : FuncData} {x : Str} {sp : Sp} (KX : K.In h) {ex : PySem.W.Frag → Bool} (c : He.SaysX fa fn ts lf ex w h K) (hb : ∀ (s : Shared) (u : Value), BindsTo s fd ⟨[u], []⟩ [(x, u)])
    (hsp : ∀ (H : Hp) (a : Addr) (ns : List Int), (∀ x ∈ lf, H (tabA K x) = some (.tbl #[])) → SqL K H a (ns.map V.int) → sp [.ref a] H (fun v _ => v = .bl true) fun _ _ _ => False)
    (hF : ∀ base : Heap, K.In base → base.Ns mainGlobals mg → (∀ x ∈ lf, LamX.TabB base mg (He.cT K x).1 (He.cT K x).2) → FnOk l.prog w K mg base CX0 k f fd [x] sp) : LamX.LawAtS l w K CX0 k n x mg f h := by
  refine ⟨fd, lf.map (He.cT K), sp, fun p hp => ?_, fun p hp => ?_, fun p hp => ?_, hb, fun H a ns _ _ hT hS => hsp H a ns (fun x hx => hT _ (List.mem_map_of_mem (f := He.cT K) hx)) hS, fun base hK hN hT => hF base hK hN fun x hx => hT _ (List.mem_map_of_mem (f := He.cT K) hx)⟩
  · obtain ⟨y, hy, rfl⟩ := List.mem_map.mp hp
    exact c.empty _ hy
  · obtain ⟨y, hy, rfl⟩ := List.mem_map.mp hp
    exact c.out _ hy
  · obtain ⟨y, hy, rfl⟩ := List.mem_map.mp hp
    exact PySem.W.codeHd_of_K KX (c.hd _ hy)
end
/-! ### the hook: the cells of methods too -/
open He in
def clsC (g : Addr → Option Obj) (a : Addr) : List Addr := match g a with
  | some ⟨_, _, .func fd, _⟩ => fd.closure.map (·.2)
  | _ => []
def asY (g : Addr → Option Obj) (n : Nat) : List Addr := He.asD g n ++ cStatics :: (He.asD g n).flatMap (clsC g)
def obsY (n : Nat) (fa : List He.Fa) (fn : List He.DefD) (ts : List He.Tab) (tf : List He.Defn) (ex : PySem.W.Frag → Bool) (g : Addr → Option Obj) : He.AlX := (He.obsT fa fn ts (He.frT g (asY g n)), ex (He.frT g (asY g n)) && He.tabsB g tf (He.frT g (asY g n)))
theorem saysY_of {n : Nat} {fa : List He.Fa} {fn : List He.DefD} {ts : List He.Tab} {tf : List He.Defn} {ex : PySem.W.Frag → Bool} {w : World} {h : Heap} (e : obsY n fa fn ts tf ex h.get? = He.valX fn ts w) : He.SaysX fa fn ts tf ex w h (He.frT h.get? (asY h.get? n)) := by
  have e1 : He.obsT fa fn ts (He.frT h.get? (asY h.get? n)) = He.valT fn ts w := congrArg (fun z : He.AlX => z.1) e
  have e2 : (ex (He.frT h.get? (asY h.get? n)) && He.tabsB h.get? tf (He.frT h.get? (asY h.get? n))) = true := congrArg (fun z : He.AlX => z.2) e
  obtain ⟨h1, h2⟩ := He.ba e2
  have key : ∀ p ∈ tf, PySem.W.codeHdIn (He.frT h.get? (asY h.get? n)) (He.cT (He.frT h.get? (asY h.get? n)) p).1 (He.cT (He.frT h.get? (asY h.get? n)) p).2 = true ∧ ∃ o, h.get? (He.cT (He.frT h.get? (asY h.get? n)) p).2 = some o ∧ He.emptyTab o = true := fun p hp => by
    obtain ⟨h3, h4⟩ := He.ba (List.all_eq_true.mp h2 p hp)
    refine ⟨h3, ?_⟩
    cases q : h.get? (He.cT (He.frT h.get? (asY h.get? n)) p).2 with
    | none =>
      rw [q] at h4
      cases h4
    | some o =>
      rw [q] at h4
      exact ⟨o, rfl, h4⟩
  exact ⟨e1, h1, fun p hp => (key p hp).1, fun p hp => by
    obtain ⟨_, o, q, z⟩ := key p hp
    exact He.frT_none q z, fun p hp => by
    obtain ⟨_, o, q, z⟩ := key p hp
    rw [q, He.emptyTab_eq z]⟩
def hookY (n : Nat) (fa : List He.Fa) (fn : List He.DefD) (ts : List He.Tab) (tf : List He.Defn) (ex : PySem.W.Frag → Bool) : PySem.W.Hook where
  α := He.AlX
  obs := fun s => obsY n fa fn ts tf ex s.heap.get?
  val := fun w => He.valX fn ts w
  says := fun w h => ∃ K : PySem.W.Frag, K.In h ∧ He.SaysX fa fn ts tf ex w h K
  of := fun _ _ e => ⟨_, He.frT_in, saysY_of e⟩
  keeps := fun _ _ _ ⟨K, hK, c⟩ k => ⟨K, PySem.W.Frag.In.keeps hK k, ⟨c.t, c.more, c.hd, c.out, fun p hp => k _ _ (c.empty p hp)⟩⟩
theorem obsY_eq {n : Nat} {fa : List He.Fa} {fn : List He.DefD} {ts : List He.Tab} {tf : List He.Defn} {ex : PySem.W.Frag → Bool} {g : Addr → Option Obj} {s : Shared} (h : ∀ a, g a = s.heap.get? a) : obsY n fa fn ts tf ex g = (hookY n fa fn ts tf ex).obs s := by
  have e : g = s.heap.get? := funext h
  rw [e] <;> rfl
/-- the head's word -/
def exB2 (lf : List (Str × Option Str)) (P : Program) (l : List EcD) (D : Option WdD) (K : PySem.W.Frag) : Bool := exB1 lf K && (l.all (ecB K P) && (match D with
  | some D => wdB K l D
  | none => true))
def gaOf (K : PySem.W.Frag) (l : List (Str × Option Str)) (j : Nat) : Addr := match l[j]? with
  | some p => He.fAd K p
  | none => 0
theorem gaOf_ok {K : PySem.W.Frag} {l : List (Str × Option Str)} {j : Nat} {p : Str × Option Str} (e : l[j]? = some p) : gaOf K l j = He.fAd K p := by unfold gaOf; rw [e]
end
end Jw

/-! The law's body in pieces: behind a piece only told slots and the row of draws are kept. -/
namespace Jw
open PySem PySem.Spec PyProof.Rows L2
noncomputable section
/-! ### values without lists -/
mutual
def wEq : W → W → Bool
  | .non, .non => true
  | .bl a, .bl b => a == b
  | .int a, .int b => ieq a b
  | .aff a b, .aff c d => ieq a c && ieq b d
  | .str a, .str b => decide (a = b)
  | .tup a, .tup b => wEqs a b
  | .ref a, .ref b => decide (a = b)
  | .glo a, .glo b => Nat.beq a b
  | _, _ => false
def wEqs : List W → List W → Bool
  | [], [] => true
  | a :: as, b :: bs => wEq a b && wEqs as bs
  | _, _ => false
end
mutual
theorem wEq_ok : ∀ {a b : W}, wEq a b = true → a = b
  | .non, b, h => by cases b <;> first | rfl | (unfold wEq at h; cases h)
  | .bl a, b, h => by
    cases b <;> unfold wEq at h <;> try (cases h; done)
    rw [beq_iff_eq] at h; rw [h]
  | .int a, b, h => by
    cases b <;> unfold wEq at h <;> try (cases h; done)
    rw [ieq_iff] at h; rw [of_decide_eq_true h]
  | .str a, b, h => by
    cases b <;> unfold wEq at h <;> try (cases h; done)
    rw [of_decide_eq_true h]
  | .tup a, b, h => by
    cases b <;> unfold wEq at h <;> try (cases h; done)
    rw [wEqs_ok h]
  | .ref a, b, h => by
    cases b <;> unfold wEq at h <;> try (cases h; done)
    rw [of_decide_eq_true h]
  | .glo a, b, h => by
    cases b <;> unfold wEq at h <;> try (cases h; done)
    rw [Nat.eq_of_beq_eq_true h]
  | .aff a b, c, h => by
    cases c <;> unfold wEq at h <;> try (cases h; done)
    rw [Bool.and_eq_true, ieq_iff, ieq_iff] at h
    rw [of_decide_eq_true h.1, of_decide_eq_true h.2]
theorem wEqs_ok : ∀ {a b : List W}, wEqs a b = true → a = b
  | [], b, h => by cases b <;> first | rfl | (unfold wEqs at h; cases h)
  | a :: as, b, h => by
    cases b <;> unfold wEqs at h
    · cases h
    · rw [Bool.and_eq_true] at h
      rw [wEq_ok h.1, wEqs_ok h.2]
end
mutual
/-- no list but at p -/
def onlyR (p : Ad) : W → Bool
  | .ref a => a.isEmpty || decide (a = p)
  | .tup ws => onlyRs p ws
  | _ => true
def onlyRs (p : Ad) : List W → Bool
  | [] => true
  | w :: ws => onlyR p w && onlyRs p ws
end
/-- what is kept: the script, the row at p -/
def keepI (p : Ad) (ι : Im) : Im := fun q => if q = [] ∨ q = p then ι q else none
section
variable {C : Cn} {T : Addr → List V → Prop} {ι : Im} {p : Ad}
mutual
theorem onlyR_rep : ∀ {w : W} {v : V}, onlyR p w = true → RepV C T ι w v → RepV C T (keepI p ι) w v
  | _, _, _, .non => .non
  | _, _, _, .bl b => .bl b
  | _, _, _, .int i => .int i
  | _, _, _, .aff c k => .aff c k
  | _, _, _, .str x => .str x
  | _, _, h, .tup hT r => .tup hT (onlyRs_rep (by unfold onlyR at h; exact h) r)
  | .ref n, _, h, .ref hn => .ref (by
    unfold onlyR at h
    rw [Bool.or_eq_true, decide_eq_true_eq, List.isEmpty_iff] at h
    unfold keepI
    rw [if_pos h]; exact hn)
  | _, _, _, .glo k => .glo k
theorem onlyRs_rep : ∀ {ws : List W} {vs : List V}, onlyRs p ws = true → RepVs C T ι ws vs → RepVs C T (keepI p ι) ws vs
  | _, _, _, .nil => .nil
  | _, _, h, .cons a b => by
    unfold onlyRs at h
    rw [Bool.and_eq_true] at h
    exact .cons (onlyR_rep h.1 a) (onlyRs_rep h.2 b)
end
end
def isRowO (o : Option O) : Bool := match o with
  | some .row => true
  | _ => false
/-- the kept slots are as told -/
def keptS (p : Ad) : Sl → Sl → Bool
  | [], _ => true
  | c :: cs, σ => (match c with
    | none => true
    | some w => onlyR p w && (match σ with
      | some u :: _ => wEq w u
      | _ => false)) && keptS p cs σ.tail
theorem keptS_at {p : Ad} : ∀ {c σ : Sl}, keptS p c σ = true → ∀ i w, nth c i = some (some w) → onlyR p w = true ∧ nth σ i = some (some w)
  | [], _, _, i, w, e => by cases i <;> cases e
  | c :: cs, σ, h, 0, w, e => by
    have e : some c = some (some w) := e
    cases e
    unfold keptS at h
    rw [Bool.and_eq_true] at h
    have h := h.1
    dsimp only at h
    rw [Bool.and_eq_true] at h
    obtain ⟨h1, h2⟩ := h
    refine ⟨h1, ?_⟩
    match σ, h2 with
    | some u :: _, h2 => rw [wEq_ok h2]; rfl
    | none :: _, h2 => cases h2
    | [], h2 => cases h2
  | c :: cs, σ, h, i + 1, w, e => by
    unfold keptS at h
    rw [Bool.and_eq_true] at h
    obtain ⟨h1, h2⟩ := keptS_at h.2 i w e
    refine ⟨h1, ?_⟩
    cases σ with
    | nil => cases i <;> cases h2
    | cons a σ => exact h2
/-- the heap behind a cut -/
def cutM (p : Ad) : M := ⟨Ad.inc p, ((Tr.nil.set [] .scr).set p .row)⟩
def leOk (p : Ad) (c : Sl) (σ : Sl) (m : M) : Bool := !p.isEmpty && isRowO (m.get p) && keptS p c σ
theorem cut_get {p q : Ad} {o : O} (hp : p ≠ []) (h : (cutM p).get q = some o) : (q = [] ∧ o = .scr) ∨ (q = p ∧ o = .row) := by
  have h : Tr.get ((Tr.nil.set [] .scr).set p .row) q = some o := h
  by_cases e : q = p
  · subst e
    rw [get_set_same] at h
    exact .inr ⟨rfl, (Option.some.inj h).symm⟩
  · rw [get_set_ne _ _ _ _ e] at h
    by_cases e2 : q = []
    · subst e2
      rw [get_set_same] at h
      exact .inl ⟨rfl, (Option.some.inj h).symm⟩
    · rw [get_set_ne _ _ _ _ e2, get_nil] at h
      cases h
theorem leOk_sim {K : PySem.W.Frag} {C : Cn} {ι : Im} {H : Hp} {p : Ad} {c σ' : Sl} {σ : L2.St} {m : M} (h : leOk p c σ' m = true) (S : SimH K C ι m H) (s : SimS K C ι H σ' σ) : SimH K C (keepI p ι) (cutM p) H ∧ SimS K C (keepI p ι) H c σ := by
  unfold leOk at h
  simp only [Bool.and_eq_true, Bool.not_eq_true'] at h
  obtain ⟨⟨h1, h2⟩, h3⟩ := h
  have hp : p ≠ [] := fun z => by subst z; cases h1
  have hrow : m.get p = some .row := by
    cases e : m.get p with
    | none => rw [e] at h2; cases h2
    | some o => cases o <;> first | rfl | (rw [e] at h2; cases h2)
  have le : ∀ q a, keepI p ι q = some a → ι q = some a := fun q a e => by
    unfold keepI at e
    split at e
    · exact e
    · cases e
  refine ⟨⟨fun n o e => ?_, fun n n' a z z' e e' => S.inj n n' a z z' (le _ _ e) (le _ _ e'), fun n a e => ?_, fun n a z e => S.tr n a z (le _ _ e), by unfold keepI; rw [if_pos (.inl rfl)]; exact S.scr, S.so, ?_, S.tabs⟩, fun i w e => ?_⟩
  · rcases cut_get hp e with ⟨rfl, rfl⟩ | ⟨rfl, rfl⟩
    · obtain ⟨a, e1, e2⟩ := S.ob [] .scr S.root
      exact ⟨a, by unfold keepI; rw [if_pos (.inl rfl)]; exact e1, e2⟩
    · obtain ⟨a, e1, e2⟩ := S.ob _ .row hrow
      exact ⟨a, by unfold keepI; rw [if_pos (.inr rfl)]; exact e1, e2⟩
  · unfold keepI at e
    split at e
    · rename_i hq
      have hn : val (cutM p).next = val p + 1 := val_inc p
      rw [hn]
      rcases hq with rfl | rfl
      · show 0 < _; omega
      · omega
    · cases e
  · show Tr.get ((Tr.nil.set [] .scr).set p .row) [] = _
    rw [get_set_ne _ _ _ _ (Ne.symm hp), get_set_same]
  · obtain ⟨k1, k2⟩ := keptS_at h3 i w e
    obtain ⟨v, e1, e2⟩ := s i w k2
    exact ⟨v, e1, onlyR_rep k1 e2⟩
/-- a piece's ends: behind it f, or True is given -/
def segOk (f : Sl → M → Bool) (r : RS) : Bool := RS.rec (fun σ m => f σ m) (fun _ _ => false) (fun _ _ => false) (fun w _ => isTrueW w) (fun _ _ _ => false) (fun _ => false) (fun n _ r => (List.range n).all fun k => r (.int (Int.ofNat k))) r
theorem segOk_post {E : XK} {K : PySem.W.Frag} {C : Cn} {ι : Im} {H : Hp} {D : Ends} {f : Sl → M → Bool} (hn : ∀ σ' m, f σ' m = true → ∀ ι1 H1 σ1, SimH K C ι1 m H1 → SimS K C ι1 H1 σ' σ1 → D.nx σ1 H1) (ht : ∀ H, D.rt (.bl true) H) : ∀ {r : RS}, segOk f r = true → PostS E K C ι H D r := fun {r} => by
  induction r with
  | nx σ m => exact fun h ι1 H1 σ1 S l t s => hn σ m h ι1 H1 σ1 S s
  | bk σ m => intro h; cases h
  | ct σ m => intro h; cases h
  | rt w m =>
    intro h ι1 H1 v S l t q
    cases w with
    | bl b =>
      have h : b = true := h
      subst h
      cases q; exact ht H1
    | _ => cases h
  | exc x σ m => intro h; cases h
  | er e => intro h; cases h
  | draw n k ih =>
    intro h d hd
    have h : ((List.range n).all fun k_1 => segOk f (k (.int (Int.ofNat k_1)))) = true := h
    rw [List.all_eq_true] at h
    exact ih _ (h d (List.mem_range.mpr hd))
/-- the pieces in turn -/
inductive SegsP (Γ : Pg) (n d : Nat) (p : Ad) : List (List Sx) → Sl → M → Prop
  | last {b : List Sx} {σ : Sl} {m : M} : segOk (fun _ _ => false) ((ev Γ n).s d b σ m) = true → SegsP Γ n d p [b] σ m
  | cons {b : List Sx} {bs : List (List Sx)} {σ : Sl} {m : M} (c : Sl) : segOk (leOk p c) ((ev Γ n).s d b σ m) = true → SegsP Γ n d p bs c (cutM p) → SegsP Γ n d p (b :: bs) σ m
theorem kSs_append {r : Sc → Expr → Ex → Bool} {rs : Sc → List Stmt → List Sx → Bool} {Y : Sc} : ∀ {x y : List Sx} {st : List Stmt}, kSs r rs Y st (x ++ y) = true → ∃ s1 s2, st = s1 ++ s2 ∧ kSs r rs Y s1 x = true ∧ kSs r rs Y s2 y = true
  | [], y, st, h => ⟨[], st, rfl, rfl, h⟩
  | x :: xs, y, [], h => by cases h
  | x :: xs, y, st :: sts, h => by
    have h : kSs r rs Y (st :: sts) (x :: (xs ++ y)) = true := h
    unfold kSs at h
    rw [Bool.and_eq_true] at h
    obtain ⟨s1, s2, e, h1, h2⟩ := kSs_append h.2
    exact ⟨st :: s1, s2, by rw [e]; rfl, by unfold kSs; rw [Bool.and_eq_true]; exact ⟨h.1, h1⟩, h2⟩
section
variable {C : Cn} {Γ : Pg} {P : Program} {w : World} {K : PySem.W.Frag} {mg : Str → Option Value} {base h : Heap} {nm : List (Str × Nat)} {gn : List Str} {E : XK} {X : Cx} {Y : Sc}
/-- two pieces -/
theorem app_ok {n d : Nat} {r : Sc → Expr → Ex → Bool} {rs : Sc → List Stmt → List Sx → Bool} (hr : Hr C Γ nm gn r n d) (hx : HrX C Γ nm gn r n d) (hr0 : ∀ k, k < n → Hr C Γ nm gn r k d) (hs : Hs E C Γ nm gn rs n d) (G : Gd C Γ gn X Y d) (GX : Gx E X) (F : Fx C Γ nm X n d) (F0 : ∀ k, k < n → Fx C Γ nm X k d) (hnice : ∀ Y e x, r Y e x = true → niceE e = true) {b2 : List Stmt} {t2 : TS} (h2 : PSs X b2 t2) :
    ∀ {st : List Stmt} {x : List Sx}, kSs r rs Y st x = true → PSs X (st ++ b2) (fun D σ H => tSt E X.K C (fun σ m => stepS Γ (ev Γ n) d x σ m) { D with nx := t2 D } σ H)
  | [], [], _ => h2.mono fun D σ H ⟨ι, σ', m, s, S, p⟩ => p ι H σ S (Le.refl _) (Tk.refl _ _) s
  | st :: sts, x :: xs, h => by
    unfold kSs at h
    rw [Bool.and_eq_true] at h
    have q := app_ok hr hx hr0 hs G GX F F0 hnice h2 h.2
    exact (pss_cons (kS_ok hr hx hr0 hs G GX F F0 hnice h.1).ps q).mono fun D σ H ⟨ι, σ', m, s, S, p⟩ => ⟨ι, σ', m, s, S, nxt_ok (σ := σ) p⟩
  | [], _ :: _, h => by cases h
  | _ :: _, [], h => by cases h
/-- where the pieces may begin -/
def tFrom (K : PySem.W.Frag) (C : Cn) (c : Sl) (m : M) : TS := fun D σ H => (∃ ι, SimS K C ι H c σ ∧ SimH K C ι m H) ∧ ∀ H, D.rt (.bl true) H
theorem segs_ok {n d f : Nat} (G : Gd C Γ gn X Y d) (GX : Gx E X) (F : ∀ k, k < n + 1 → ∀ d', Fo C Γ nm X.prog X.w X.K X.mg X.base k d') {p : Ad} : ∀ {bs : List (List Sx)} {c : Sl} {m : M} {st : List Stmt}, SegsP Γ (n + 1) d p bs c m → kSs (chkE nm gn (f + 1)) (chkS nm gn f) Y st bs.flatten = true → PSs X st (tFrom X.K C c m) := by
  intro bs c m st q
  have ok := fun {b2 : List Stmt} {t2 : TS} (h2 : PSs X b2 t2) {st : List Stmt} {x : List Sx} (h : kSs (chkE nm gn (f + 1)) (chkS nm gn f) Y st x = true) => app_ok (r := chkE nm gn (f + 1)) (rs := chkS nm gn f) (fun X Y e x G F h => soundE n (f + 1) d X Y e x G (fun k hk => F k (Nat.le_of_lt hk)) h)
      (fun E X Y e x G F tk hc h => (soundEX n).2 (f + 1) d E X Y e x G (fun k hk => F k (Nat.le_of_lt hk)) tk hc h)
      (fun k hk X Y e x G F h => soundE k (f + 1) d X Y e x G (fun j hj => F j (Nat.le_of_lt hj)) h)
      (fun X Y st x G GX F h => soundS n f d E X Y st x G GX (fun k hk => F k (Nat.le_of_lt hk)) h) G GX (fx_lt F (Nat.lt_succ_self n)) (fun k hk => fx_lt F (by omega)) (fun Y e x h => chk_niceE h) h2 h
  induction q generalizing st with
  | last h =>
    rename_i b σ m
    intro hk
    rw [List.flatten_cons, List.flatten_nil, List.append_nil] at hk
    have q := ok pss_nil hk
    rw [List.append_nil] at q
    exact q.mono fun D s H ⟨⟨ι, s1, S⟩, ht⟩ => ⟨ι, σ, m, s1, S, segOk_post (fun _ _ z => by cases z) ht h⟩
  | cons c h hs ih =>
    rename_i b bs σ m
    intro hk
    rw [List.flatten_cons] at hk
    obtain ⟨s1, s2, e, k1, k2⟩ := kSs_append hk
    subst e
    exact (ok (ih k2) k1).mono fun D s H ⟨⟨ι, s1, S⟩, ht⟩ => ⟨ι, σ, m, s1, S, segOk_post (D := { D with nx := tFrom X.K C c (cutM p) D }) (fun σ' m' hl ι1 H1 σ1 S1 s1 => by
      obtain ⟨g1, g2⟩ := leOk_sim hl S1 s1
      exact ⟨⟨_, g2, g1⟩, ht⟩) ht h⟩
theorem startH {H : Hp} (so : ScrOk K C H) (hT : LamX.Tabs C.tb H) : SimH K C (fun n => if n = [] then some C.scr else none) m0 H := by
  refine ⟨fun n o e => ?_, fun n n' a z _ e _ => ?_, fun n a e => ?_, fun n a z e => ?_, if_pos rfl, so, rfl, hT⟩
  · cases n with
    | nil => cases e; exact ⟨C.scr, if_pos rfl, rfl⟩
    | cons b n =>
      have e : m0.get (b :: n) = some o := e
      have : m0.get (b :: n) = none := by
        cases b <;> exact get_nil n
      rw [this] at e; cases e
  · rw [if_neg z] at e; cases e
  · by_cases hn : n = []
    · subst hn; exact (by decide : val [] < val m0.next)
    · rw [if_neg hn] at e; cases e
  · rw [if_neg z] at e; cases e
/-- the law's promise, in pieces -/
def spCut (K : PySem.W.Frag) (C : Cn) : Sp := fun vs H Q _ => vs = [.ref C.scr] ∧ ScrOk K C H ∧ LamX.Tabs C.tb H ∧ ∀ H, Q (.bl true) H
/-- the law itself, in pieces -/
theorem fo_lawC {en : List (Str × Bool)} {wd : Option Str} (D : Df0 C Γ nm gn en wd P w K mg base) {n d : Nat} {x : Str} {st : Stmt} {fn : Fn} {N ps : List Str} {f : Addr} {fd : FuncData} (FU : L2.Fun K x x st f fd) (SC : FnScope N ps (defScope st)) (hN : N.length = fn.n) {lm : Bool} (hlm : LmF C base mg x fd lm) {bs : List (List Sx)} (hb : fn.b = bs.flatten) (hc : chkS nm gn 1000 ⟨N, defScope st, fun _ => true, lm, en, wd, ciOf C⟩ (defBody st) fn.b = true) (hl : ps.length = 1) {p : Ad} (hs : SegsP Γ (n + 1) d p bs (startW fn.n [.ref []]) m0) :
    FnOk P w K mg base CX0 (d + 3) f fd ps (spCut K C) := by
  refine fn_no (funC (sp := spCut K C) FU SC (fun vs H Q E h => by rw [hl, h.1]; rfl) fun cdv A outer s H vs Q E hcd hr ⟨hvs, so, hT, hq⟩ => ?_)
  subst hvs
  have G : Gd C Γ gn (cxOf (L2.CX P w) P w K mg base N x (defScope st) f cdv A outer s H E) ⟨N, defScope st, fun _ => true, lm, en, wd, ciOf C⟩ d := ⟨rfl, rfl, rfl, rfl, SC.nd, fun x h => D.wo x h _ rfl rfl rfl, D.ec, hr, D.bl, fun z => by
    obtain ⟨c, P', h1, h2, h3, h4⟩ := hlm z
    exact ⟨c, P', h1, hcd.symm.trans h2, h3, h4⟩, rfl⟩
  rw [hb] at hc
  have q := segs_ok (n := n) (f := 999) (E := E) (X := cxOf (L2.CX P w) P w K mg base N x (defScope st) f cdv A outer s H E) G ⟨passes_of rfl, takes_of rfl rfl rfl rfl⟩ (fun k _ d' => fo_all D k d') hs hc
  refine ⟨_, q, ⟨fun n => if n = [] then some C.scr else none, startSim (ws := [.ref []]) (.cons (.ref (if_pos rfl)) .nil) hN, ?_⟩, hq⟩
  exact startH so hT
end
end
end Jw

set_option maxRecDepth 1000000
namespace K64
open Jw
/-- is_int: value -/
def f0 : Fn := ⟨1, [.ret (.an [.b1 .isInt (.vr 0), .no (.b1 .isBool (.vr 0))])]⟩
/-- is_from: value least most -/
def f1 : Fn := ⟨3, [.ret (.an [.call 0 [.vr 0], .ch2 .le .le (.vr 1) (.vr 0) (.vr 2)])]⟩
/-- root_of: parent place -/
def f2 : Fn := ⟨2, [.whl (.cmp .ne (.ix (.vr 0) (.vr 1)) (.vr 1)) [.asg (.ix (.vr 0) (.vr 1)) (.ix (.vr 0) (.ix (.vr 0) (.vr 1))), .asg (.nm 1) (.ix (.vr 0) (.vr 1))], .ret (.vr 1)]⟩
/-- neighbors_of: web found index a b cost place -/
def f3 : Fn := ⟨7, [.asg (.nm 1) (.comp (.lst []) (.nm 6) (.rng (.cw (.int 0)) (.ix (.vr 0) (.cw (.int 0)))) [] [6]), .fr (.tp [.nm 2, .tp [.nm 3, .nm 4, .nm 5]]) (.enum (.ix (.vr 0) (.cw (.int 1)))) [.ex (.b2 .append (.ix (.vr 1) (.vr 3)) (.tup [.vr 4, .vr 5, .vr 2])), .ex (.b2 .append (.ix (.vr 1) (.vr 4)) (.tup [.vr 3, .vr 5, .vr 2]))], .ret (.vr 1)]⟩
/-- spread: web start near told by open_places here other cost index place -/
def f4 : Fn := ⟨11, [.asg (.tp [.nm 2, .nm 3, .nm 4]) (.tup [.call 3 [.vr 0], .b1 .list (.vr 1), .bin .mul (.lst [.cw .non]) (.ix (.vr 0) (.cw (.int 0)))]), .asg (.nm 5) (.comp (.vr 10) (.nm 10) (.rng (.cw (.int 0)) (.ix (.vr 0) (.cw (.int 0)))) [.notN (.ix (.vr 3) (.vr 10))] [10]), .whl (.cmp .ne (.vr 5) (.lst [])) [.asg (.nm 6) (.minK (.vr 5) 10 (.tup [.ix (.vr 3) (.vr 10), .vr 10])), .ex (.b2 .remove (.vr 5) (.vr 6)), .fr (.tp [.nm 7, .nm 8, .nm 9]) (.seq (.ix (.vr 2) (.vr 6))) [.iff (.orr [.isN (.ix (.vr 3) (.vr 7)), .cmp .lt (.bin .add (.ix (.vr 3) (.vr 6)) (.vr 8)) (.ix (.vr 3) (.vr 7))]) [.asg (.tp [.ix (.vr 3) (.vr 7), .ix (.vr 4) (.vr 7)]) (.tup [.bin .add (.ix (.vr 3) (.vr 6)) (.vr 8), .vr 9]), .iff (.cmp .notin (.vr 7) (.vr 5)) [.ex (.b2 .append (.vr 5) (.vr 7))] []] []]], .ret (.tup [.vr 3, .vr 4])]⟩
/-- least_join: web told table whole last -/
def f5 : Fn := ⟨5, [.par [2, 3, 4] [.mkI 0 [.vr 0, .vr 1], .bin .sub (.bin .shl (.cw (.int 1)) (.b1 .len (.vr 1))) (.cw (.int 1)), .ix (.vr 1) (.neg (.cw (.int 1)))], .iff (.isN (.ix (.ix (.fld (.vr 2) 0) (.vr 3)) (.vr 4))) [.ret (.cw .non)] [], .ret (.tup [.ix (.ix (.fld (.vr 2) 0) (.vr 3)) (.vr 4), .b1 .tuple (.b1 .sortedSet (.meth (.vr 2) 3 [.vr 3, .vr 4]))])]⟩
/-- closed: web start told by found index a b cost -/
def f6 : Fn := ⟨9, [.par [2, 3] [.b1 .list (.vr 1), .bin .mul (.lst [.cw .non]) (.ix (.vr 0) (.cw (.int 0)))], .whl (.cw (.bl true)) [.asg (.nm 4) (.cw .non), .fr (.tp [.nm 5, .tp [.nm 6, .nm 7, .nm 8]]) (.enum (.ix (.vr 0) (.cw (.int 1)))) [.iff (.an [.notN (.ix (.vr 2) (.vr 7)), .orr [.isN (.ix (.vr 2) (.vr 6)), .cmp .lt (.bin .add (.ix (.vr 2) (.vr 7)) (.vr 8)) (.ix (.vr 2) (.vr 6))]]) [.asg (.nm 4) (.vr 5), .asg (.tp [.ix (.vr 2) (.vr 6), .ix (.vr 3) (.vr 6)]) (.tup [.bin .add (.ix (.vr 2) (.vr 7)) (.vr 8), .vr 5])] []], .iff (.isN (.vr 4)) [.ret (.tup [.vr 2, .vr 3])] []]]⟩
/-- filled: web told best made lot start at place part one other by -/
def f7 : Fn := ⟨12, [.par [2, 3] [.dnew false, .dnew true], .fr (.nm 4) (.rng (.cw (.int 1)) (.bin .shl (.cw (.int 1)) (.b1 .len (.vr 1)))) [.asg (.nm 5) (.bin .mul (.lst [.cw .non]) (.ix (.vr 0) (.cw (.int 0)))), .fr (.tp [.nm 6, .nm 7]) (.enum (.vr 1)) [.iff (.cmp .eq (.vr 4) (.bin .shl (.cw (.int 1)) (.vr 6))) [.asg (.ix (.vr 5) (.vr 7)) (.cw (.int 0))] []], .asg (.nm 8) (.bin .band (.bin .sub (.vr 4) (.cw (.int 1))) (.vr 4)), .whl (.cmp .gt (.vr 8) (.cw (.int 0))) [.fr (.nm 7) (.rng (.cw (.int 0)) (.ix (.vr 0) (.cw (.int 0)))) [.par [9, 10] [.ix (.ix (.vr 2) (.vr 8)) (.vr 7), .ix (.ix (.vr 2) (.bin .sub (.vr 4) (.vr 8))) (.vr 7)], .iff (.an [.notN (.vr 9), .notN (.vr 10), .orr [.isN (.ix (.vr 5) (.vr 7)), .cmp .lt (.bin .add (.vr 9) (.vr 10)) (.ix (.vr 5) (.vr 7))]]) [.asg (.ix (.vr 5) (.vr 7)) (.bin .add (.vr 9) (.vr 10)), .asg (.ix (.vr 3) (.tup [.vr 4, .vr 7])) (.vr 8)] []], .asg (.nm 8) (.bin .band (.bin .sub (.vr 8) (.cw (.int 1))) (.vr 4))], .asg (.tp [.ix (.vr 2) (.vr 4), .nm 11]) (.call 6 [.vr 0, .vr 5]), .fr (.nm 7) (.rng (.cw (.int 0)) (.ix (.vr 0) (.cw (.int 0)))) [.iff (.notN (.ix (.vr 11) (.vr 7))) [.asg (.ix (.vr 3) (.tup [.vr 4, .vr 7])) (.tup [.ix (.vr 11) (.vr 7)])] []]], .ret (.tup [.vr 2, .vr 3])]⟩
/-- told_roads: web made lot place how -/
def f8 : Fn := ⟨5, [.asg (.nm 4) (.b2 .get (.vr 1) (.tup [.vr 2, .vr 3])), .iff (.isN (.vr 4)) [.ret (.lst [])] [], .iff (.b1 .isTuple (.vr 4)) [.ret (.bin .add (.lst [.ix (.vr 4) (.cw (.int 0))]) (.call 8 [.vr 0, .vr 1, .vr 2, .ix (.ix (.ix (.vr 0) (.cw (.int 1))) (.ix (.vr 4) (.cw (.int 0)))) (.cw (.int 1))]))] [], .ret (.bin .add (.call 8 [.vr 0, .vr 1, .vr 4, .vr 3]) (.call 8 [.vr 0, .vr 1, .bin .sub (.vr 2) (.vr 4), .vr 3]))]⟩
/-- out_join: web root told best made whole -/
def f9 : Fn := ⟨6, [.asg (.tp [.nm 3, .nm 4]) (.call 7 [.vr 0, .vr 2]), .asg (.nm 5) (.bin .sub (.bin .shl (.cw (.int 1)) (.b1 .len (.vr 2))) (.cw (.int 1))), .iff (.isN (.ix (.ix (.vr 3) (.vr 5)) (.vr 1))) [.ret (.cw .non)] [], .ret (.tup [.ix (.ix (.vr 3) (.vr 5)) (.vr 1), .b1 .tuple (.b1 .sortedSet (.call 8 [.vr 0, .vr 4, .vr 5, .vr 1]))])]⟩
/-- is_point: value -/
def f10 : Fn := ⟨1, [.iff (.orr [.no (.b1 .isTuple (.vr 0)), .cmp .ne (.b1 .len (.vr 0)) (.cw (.int 2))]) [.ret (.cw (.bl false))] [], .ret (.an [.call 1 [.ix (.vr 0) (.cw (.int 0)), .neg (.gl 1), .gl 1], .call 1 [.ix (.vr 0) (.cw (.int 1)), .neg (.gl 1), .gl 1]])]⟩
/-- need_points: value index point -/
def f11 : Fn := ⟨3, [.iff (.orr [.no (.b1 .isTuple (.vr 0)), .no (.ch2 .le .le (.cw (.int 1)) (.b1 .len (.vr 0)) (.gl 0))]) [.rse 1 [.cw .non]] [], .fr (.tp [.nm 1, .nm 2]) (.enum (.vr 0)) [.iff (.orr [.no (.call 10 [.vr 2]), .an [.cmp .gt (.vr 1) (.cw (.int 0)), .cmp .le (.vr 2) (.ix (.vr 0) (.bin .sub (.vr 1) (.cw (.int 1))))]]) [.rse 1 [.vr 1]] []]]⟩
/-- far: one other -/
def f12 : Fn := ⟨2, [.ret (.bin .add (.b1 .abs (.bin .sub (.ix (.vr 0) (.cw (.int 0))) (.ix (.vr 1) (.cw (.int 0))))) (.b1 .abs (.bin .sub (.ix (.vr 0) (.cw (.int 1))) (.ix (.vr 1) (.cw (.int 1))))))]⟩
/-- is_piece: value -/
def f13 : Fn := ⟨1, [.iff (.orr [.no (.b1 .isTuple (.vr 0)), .cmp .ne (.b1 .len (.vr 0)) (.cw (.int 2)), .no (.call 10 [.ix (.vr 0) (.cw (.int 0))]), .no (.call 10 [.ix (.vr 0) (.cw (.int 1))])]) [.ret (.cw (.bl false))] [], .ret (.an [.cmp .lt (.ix (.vr 0) (.cw (.int 0))) (.ix (.vr 0) (.cw (.int 1))), .orr [.cmp .eq (.ix (.ix (.vr 0) (.cw (.int 0))) (.cw (.int 0))) (.ix (.ix (.vr 0) (.cw (.int 1))) (.cw (.int 0))), .cmp .eq (.ix (.ix (.vr 0) (.cw (.int 0))) (.cw (.int 1))) (.ix (.ix (.vr 0) (.cw (.int 1))) (.cw (.int 1)))]])]⟩
/-- need_high: value index point -/
def f14 : Fn := ⟨3, [.ex (.call 11 [.vr 0]), .iff (.cmp .gt (.b1 .len (.vr 0)) (.gl 2)) [.rse 1 [.cw .non]] [], .fr (.tp [.nm 1, .nm 2]) (.enum (.vr 0)) [.iff (.orr [.cmp .lt (.ix (.vr 2) (.cw (.int 0))) (.cw (.int 0)), .cmp .lt (.ix (.vr 2) (.cw (.int 1))) (.cw (.int 0))]) [.rse 1 [.vr 1]] []]]⟩
/-- rising_web: points rows lines places spots roads place point at x line y -/
def f15 : Fn := ⟨12, [.asg (.nm 1) (.b1 .sortedSet (.bin .add (.lst [.cw (.int 0)]) (.comp (.vr 9) (.tp [.nm 9, .nm 11]) (.seq (.vr 0)) [] [9, 11]))), .asg (.nm 2) (.b1 .sortedSet (.bin .add (.lst [.cw (.int 0)]) (.comp (.vr 11) (.tp [.nm 9, .nm 11]) (.seq (.vr 0)) [] [9, 11]))), .asg (.nm 3) (.comp2 (.tup [.vr 9, .vr 11]) (.nm 9) (.seq (.vr 1)) [] (.nm 11) (.seq (.vr 2)) [] [9, 11] [11]), .par [4, 5] [.dnew true, .lst []], .fr (.tp [.nm 6, .nm 7]) (.enum (.vr 3)) [.asg (.ix (.vr 4) (.vr 7)) (.vr 6)], .fr (.tp [.nm 8, .nm 9]) (.enum (.vr 1)) [.fr (.tp [.nm 10, .nm 11]) (.enum (.vr 2)) [.iff (.cmp .lt (.bin .add (.vr 10) (.cw (.int 1))) (.b1 .len (.vr 2))) [.ex (.b2 .append (.vr 5) (.tup [.ix (.vr 4) (.tup [.vr 9, .vr 11]), .ix (.vr 4) (.tup [.vr 9, .ix (.vr 2) (.bin .add (.vr 10) (.cw (.int 1)))]), .bin .sub (.ix (.vr 2) (.bin .add (.vr 10) (.cw (.int 1)))) (.vr 11)]))] [], .iff (.cmp .lt (.bin .add (.vr 8) (.cw (.int 1))) (.b1 .len (.vr 1))) [.ex (.b2 .append (.vr 5) (.tup [.ix (.vr 4) (.tup [.vr 9, .vr 11]), .ix (.vr 4) (.tup [.ix (.vr 1) (.bin .add (.vr 8) (.cw (.int 1))), .vr 11]), .bin .sub (.ix (.vr 1) (.bin .add (.vr 8) (.cw (.int 1)))) (.vr 9)]))] []]], .ret (.tup [.vr 3, .tup [.b1 .len (.vr 3), .b1 .tuple (.vr 5)], .b1 .tuple (.comp (.ix (.vr 4) (.vr 7)) (.nm 7) (.seq (.vr 0)) [] [7])])]⟩
/-- rising_join: points places roads told length lot index -/
def f16 : Fn := ⟨7, [.asg (.tp [.nm 1, .nm 2, .nm 3]) (.call 15 [.vr 0]), .asg (.tp [.nm 4, .nm 5]) (.call 9 [.vr 2, .cw (.int 0), .vr 3]), .ret (.tup [.vr 4, .b1 .tuple (.b1 .sorted (.comp (.tup [.ix (.vr 1) (.ix (.ix (.ix (.vr 2) (.cw (.int 1))) (.vr 6)) (.cw (.int 0))), .ix (.vr 1) (.ix (.ix (.ix (.vr 2) (.cw (.int 1))) (.vr 6)) (.cw (.int 1)))]) (.nm 6) (.seq (.vr 5)) [] [6]))])]⟩
/-- rising_price: points -/
def f17 : Fn := ⟨1, [.ex (.call 14 [.vr 0]), .ret (.ix (.call 16 [.vr 0]) (.cw (.int 0)))]⟩
/-- rising_pieces: points -/
def f18 : Fn := ⟨1, [.ex (.call 14 [.vr 0]), .ret (.ix (.call 16 [.vr 0]) (.cw (.int 1)))]⟩
/-- leads_up: pieces points held turn one other point -/
def f19 : Fn := ⟨7, [.asg (.nm 2) (.lst [.tup [.cw (.int 0), .cw (.int 0)]]), .fr (.nm 3) (.rng (.cw (.int 0)) (.b1 .len (.vr 0))) [.fr (.tp [.nm 4, .nm 5]) (.seq (.vr 0)) [.iff (.an [.cmp .isin (.vr 4) (.vr 2), .cmp .notin (.vr 5) (.vr 2)]) [.ex (.b2 .append (.vr 2) (.vr 5))] []]], .ret (.b1 .all (.comp (.cmp .isin (.vr 6) (.vr 2)) (.nm 6) (.seq (.vr 1)) [] [6]))]⟩
/-- shows_rising: points value piece at one other -/
def f20 : Fn := ⟨6, [.ex (.call 14 [.vr 0]), .iff (.orr [.no (.b1 .isTuple (.vr 1)), .no (.b1 .all (.comp (.call 13 [.vr 2]) (.nm 2) (.seq (.vr 1)) [] [2]))]) [.ret (.cw (.bl false))] [], .iff (.orr [.b1 .any (.comp (.cmp .le (.ix (.vr 1) (.vr 3)) (.ix (.vr 1) (.bin .sub (.vr 3) (.cw (.int 1))))) (.nm 3) (.rng (.cw (.int 1)) (.b1 .len (.vr 1))) [] [3]), .no (.call 19 [.vr 1, .vr 0])]) [.ret (.cw (.bl false))] [], .ret (.cmp .eq (.b1 .sum (.comp (.bin .sub (.bin .add (.bin .sub (.ix (.vr 5) (.cw (.int 0))) (.ix (.vr 4) (.cw (.int 0)))) (.ix (.vr 5) (.cw (.int 1)))) (.ix (.vr 4) (.cw (.int 1)))) (.tp [.nm 4, .nm 5]) (.seq (.vr 1)) [] [4, 5])) (.ix (.call 16 [.vr 0]) (.cw (.int 0))))]⟩
/-- rising_greedy: points left total pairs at one other meet height point -/
def f21 : Fn := ⟨10, [.ex (.call 14 [.vr 0]), .par [1, 2] [.b1 .sortedSetT (.lstS [(false, .tup [.cw (.int 0), .cw (.int 0)]), (true, .vr 0)]), .cw (.int 0)], .whl (.cmp .gt (.b1 .len (.vr 1)) (.cw (.int 1))) [.asg (.nm 3) (.lst []), .fr (.tp [.nm 4, .nm 5]) (.enum (.vr 1)) [.fr (.nm 6) (.seq (.sl (.vr 1) none (some (.vr 4)))) [.asg (.nm 7) (.tup [.b2 .min (.ix (.vr 5) (.cw (.int 0))) (.ix (.vr 6) (.cw (.int 0))), .b2 .min (.ix (.vr 5) (.cw (.int 1))) (.ix (.vr 6) (.cw (.int 1)))]), .ex (.b2 .append (.vr 3) (.tup [.bin .add (.ix (.vr 7) (.cw (.int 0))) (.ix (.vr 7) (.cw (.int 1))), .vr 7, .vr 6, .vr 5]))]], .asg (.tp [.nm 8, .nm 7, .nm 5, .nm 6]) (.b1 .max (.vr 3)), .augv 2 .add (.bin .sub (.bin .add (.b1 .sum (.vr 5)) (.b1 .sum (.vr 6))) (.bin .mul (.cw (.int 2)) (.vr 8))), .asg (.nm 1) (.b1 .sortedSetT (.bin .add (.comp (.vr 9) (.nm 9) (.seq (.vr 1)) [.cmp .notin (.vr 9) (.tup [.vr 5, .vr 6])] [9]) (.lst [.vr 7])))], .ret (.vr 2)]⟩
/-- is_wall: value one -/
def f22 : Fn := ⟨2, [.iff (.orr [.no (.b1 .isTuple (.vr 0)), .cmp .ne (.b1 .len (.vr 0)) (.cw (.int 4)), .no (.b1 .all (.comp (.call 1 [.vr 1, .neg (.gl 1), .gl 1]) (.nm 1) (.seq (.vr 0)) [] [1]))]) [.ret (.cw (.bl false))] [], .ret (.an [.cmp .lt (.ix (.vr 0) (.cw (.int 0))) (.ix (.vr 0) (.cw (.int 2))), .cmp .lt (.ix (.vr 0) (.cw (.int 1))) (.ix (.vr 0) (.cw (.int 3)))])]⟩
/-- is_inside: wall point -/
def f23 : Fn := ⟨2, [.ret (.an [.ch2 .lt .lt (.ix (.vr 0) (.cw (.int 0))) (.ix (.vr 1) (.cw (.int 0))) (.ix (.vr 0) (.cw (.int 2))), .ch2 .lt .lt (.ix (.vr 0) (.cw (.int 1))) (.ix (.vr 1) (.cw (.int 1))) (.ix (.vr 0) (.cw (.int 3)))])]⟩
/-- need_walled: points walls index wall point -/
def f24 : Fn := ⟨5, [.ex (.call 11 [.vr 0]), .iff (.cmp .gt (.b1 .len (.vr 0)) (.gl 3)) [.rse 1 [.cw .non]] [], .iff (.orr [.no (.b1 .isTuple (.vr 1)), .cmp .gt (.b1 .len (.vr 1)) (.gl 4)]) [.rse 2 [.cw .non]] [], .fr (.tp [.nm 2, .nm 3]) (.enum (.vr 1)) [.iff (.orr [.no (.call 22 [.vr 3]), .b1 .any (.comp (.call 23 [.vr 3, .vr 4]) (.nm 4) (.seq (.vr 0)) [] [4])]) [.rse 2 [.vr 2]] []]]⟩
/-- is_barred: walls one other left low right high -/
def f25 : Fn := ⟨7, [.fr (.tp [.nm 3, .nm 4, .nm 5, .nm 6]) (.seq (.vr 0)) [.iff (.cmp .eq (.ix (.vr 1) (.cw (.int 1))) (.ix (.vr 2) (.cw (.int 1)))) [.iff (.an [.ch2 .lt .lt (.vr 4) (.ix (.vr 1) (.cw (.int 1))) (.vr 6), .cmp .lt (.b2 .max (.vr 3) (.ix (.vr 1) (.cw (.int 0)))) (.b2 .min (.vr 5) (.ix (.vr 2) (.cw (.int 0))))]) [.ret (.cw (.bl true))] []] [.iff (.an [.ch2 .lt .lt (.vr 3) (.ix (.vr 1) (.cw (.int 0))) (.vr 5), .cmp .lt (.b2 .max (.vr 4) (.ix (.vr 1) (.cw (.int 1)))) (.b2 .min (.vr 6) (.ix (.vr 2) (.cw (.int 1))))]) [.ret (.cw (.bl true))] []]], .ret (.cw (.bl false))]⟩
/-- walled_web: points walls rows lines places spots ties place point at x line y here ahead other wall -/
def f26 : Fn := ⟨17, [.asg (.nm 2) (.b1 .sortedSet (.bin .add (.comp (.vr 10) (.tp [.nm 10, .nm 12]) (.seq (.vr 0)) [] [10, 12]) (.comp2 (.ix (.vr 16) (.vr 9)) (.nm 16) (.seq (.vr 1)) [] (.nm 9) (.seq (.tup [.cw (.int 0), .cw (.int 2)])) [] [16, 9] [9]))), .asg (.nm 3) (.b1 .sortedSet (.bin .add (.comp (.vr 12) (.tp [.nm 10, .nm 12]) (.seq (.vr 0)) [] [10, 12]) (.comp2 (.ix (.vr 16) (.vr 9)) (.nm 16) (.seq (.vr 1)) [] (.nm 9) (.seq (.tup [.cw (.int 1), .cw (.int 3)])) [] [16, 9] [9]))), .asg (.nm 4) (.comp2 (.tup [.vr 10, .vr 12]) (.nm 10) (.seq (.vr 2)) [] (.nm 12) (.seq (.vr 3)) [] [10, 12] [12]), .par [5, 6] [.dnew true, .lst []], .fr (.tp [.nm 7, .nm 8]) (.enum (.vr 4)) [.asg (.ix (.vr 5) (.vr 8)) (.vr 7)], .fr (.tp [.nm 9, .nm 10]) (.enum (.vr 2)) [.fr (.tp [.nm 11, .nm 12]) (.enum (.vr 3)) [.asg (.nm 13) (.tup [.vr 10, .vr 12]), .asg (.nm 14) (.ite (.cmp .lt (.bin .add (.vr 11) (.cw (.int 1))) (.b1 .len (.vr 3))) (.lst [.tup [.vr 10, .ix (.vr 3) (.bin .add (.vr 11) (.cw (.int 1)))]]) (.lst [])), .iff (.cmp .lt (.bin .add (.vr 9) (.cw (.int 1))) (.b1 .len (.vr 2))) [.ex (.b2 .append (.vr 14) (.tup [.ix (.vr 2) (.bin .add (.vr 9) (.cw (.int 1))), .vr 12]))] [], .fr (.nm 15) (.seq (.vr 14)) [.iff (.no (.call 25 [.vr 1, .vr 13, .vr 15])) [.ex (.b2 .append (.vr 6) (.tup [.ix (.vr 5) (.vr 13), .ix (.vr 5) (.vr 15), .call 12 [.vr 13, .vr 15]]))] []]]], .ret (.tup [.vr 4, .tup [.b1 .len (.vr 4), .b1 .tuple (.vr 6)], .b1 .tuple (.comp (.ix (.vr 5) (.vr 8)) (.nm 8) (.seq (.vr 0)) [] [8])])]⟩
/-- walled_join: points walls places web told length lot index -/
def f27 : Fn := ⟨8, [.asg (.tp [.nm 2, .nm 3, .nm 4]) (.call 26 [.vr 0, .vr 1]), .asg (.tp [.nm 5, .nm 6]) (.call 5 [.vr 3, .vr 4]), .ret (.tup [.vr 5, .b1 .tuple (.b1 .sorted (.comp (.tup [.ix (.vr 2) (.ix (.ix (.ix (.vr 3) (.cw (.int 1))) (.vr 7)) (.cw (.int 0))), .ix (.vr 2) (.ix (.ix (.ix (.vr 3) (.cw (.int 1))) (.vr 7)) (.cw (.int 1)))]) (.nm 7) (.seq (.vr 6)) [] [7]))])]⟩
/-- walled_price: points walls -/
def f28 : Fn := ⟨2, [.ex (.call 24 [.vr 0, .vr 1]), .ret (.ix (.call 27 [.vr 0, .vr 1]) (.cw (.int 0)))]⟩
/-- walled_pieces: points walls -/
def f29 : Fn := ⟨2, [.ex (.call 24 [.vr 0, .vr 1]), .ret (.ix (.call 27 [.vr 0, .vr 1]) (.cw (.int 1)))]⟩
/-- shows_around: points walls value ends parent point one other piece at end -/
def f30 : Fn := ⟨11, [.ex (.call 24 [.vr 0, .vr 1]), .iff (.orr [.no (.b1 .isTuple (.vr 2)), .no (.b1 .all (.comp (.call 13 [.vr 8]) (.nm 8) (.seq (.vr 2)) [] [8]))]) [.ret (.cw (.bl false))] [], .iff (.b1 .any (.comp (.cmp .le (.ix (.vr 2) (.vr 9)) (.ix (.vr 2) (.bin .sub (.vr 9) (.cw (.int 1))))) (.nm 9) (.rng (.cw (.int 1)) (.b1 .len (.vr 2))) [] [9])) [.ret (.cw (.bl false))] [], .iff (.b1 .any (.comp (.call 25 [.vr 1, .vr 6, .vr 7]) (.tp [.nm 6, .nm 7]) (.seq (.vr 2)) [] [6, 7])) [.ret (.cw (.bl false))] [], .par [3, 4] [.dnew true, .lst []], .fr (.nm 5) (.seq (.lstS [(true, .vr 0), (true, .comp2 (.vr 10) (.nm 8) (.seq (.vr 2)) [] (.nm 10) (.seq (.vr 8)) [] [8, 10] [10])])) [.iff (.cmp .notin (.vr 5) (.vr 3)) [.asg (.ix (.vr 3) (.vr 5)) (.b1 .len (.vr 4)), .ex (.b2 .append (.vr 4) (.b1 .len (.vr 4)))] []], .fr (.tp [.nm 6, .nm 7]) (.seq (.vr 2)) [.asg (.ix (.vr 4) (.call 2 [.vr 4, .ix (.vr 3) (.vr 6)])) (.call 2 [.vr 4, .ix (.vr 3) (.vr 7)])], .iff (.cmp .ne (.b1 .lenSet (.comp (.call 2 [.vr 4, .ix (.vr 3) (.vr 5)]) (.nm 5) (.seq (.vr 0)) [] [5])) (.cw (.int 1))) [.ret (.cw (.bl false))] [], .ret (.cmp .eq (.b1 .sum (.comp (.call 12 [.vr 6, .vr 7]) (.tp [.nm 6, .nm 7]) (.seq (.vr 2)) [] [6, 7])) (.ix (.call 27 [.vr 0, .vr 1]) (.cw (.int 0))))]⟩
/-- _law_pick: _law_row _law_things -/
def f32 : Fn := ⟨2, [.ret (.ix (.vr 1) (.call 31 [.vr 0, .b1 .len (.vr 1)]))]⟩
def sg8 : List Sx := [.asg (.nm 8) (.lst [.tup [.cw .non, .cw .non], .tup [.lst [], .cw .non], .tup [.bin .mul (.tup [.ix (.vr 4) (.cw (.int 0))]) (.cw (.int 4)), .cw .non], .tup [.tup [.tup [.cw (.int 0), .cw (.int 0), .cw (.int 1), .cw (.int 1)], .cw .non], .cw (.int 1)], .tup [.tup [.tup [.cw (.int 0), .cw (.int 0), .cw (.int 0), .cw (.int 1)]], .cw (.int 0)]]), .asg (.nm 8) (.bin .add (.vr 8) (.lst [.tup [.tup [.tup [.cw (.int 0), .cw (.int 0), .cw (.int 1), .cw (.int 0)]], .cw (.int 0)], .tup [.tup [.tup [.cw (.int 0), .cw (.int 0), .cw (.int 1)]], .cw (.int 0)], .tup [.tup [.tup [.cw (.int 0), .cw (.int 0), .cw (.int 1), .cw (.int 100)]], .cw (.int 0)], .tup [.tup [.tup [.cw (.int 0), .cw (.int 0), .cw (.int 1), .cw (.bl true)]], .cw (.int 0)]])), .asg (.nm 8) (.bin .add (.vr 8) (.lst [.tup [.tup [.lst [.cw (.int 0), .cw (.int 0), .cw (.int 1), .cw (.int 1)]], .cw (.int 0)], .tup [.tup [.tup [.cw (.int 0), .cw (.int 0), .cw (.int 1), .cw (.int 1)], .tup [.neg (.cw (.int 1)), .neg (.cw (.int 1)), .cw (.int 1), .cw (.int 1)]], .cw (.int 1)], .tup [.tup [.tup [.cw (.int 1), .cw (.int 4), .cw (.int 3), .cw (.int 6)]], .cw (.int 0)]])), .asg (.tp [.nm 13, .nm 10]) (.call 32 [.vr 1, .vr 8]), .asg (.nm 11) (.lst [.word [] (.call 28 [.vr 7, .vr 13]), .word [19] (.call 29 [.vr 7, .vr 13])]), .ex (.b2 .append (.vr 11) (.word [] (.call 30 [.vr 7, .vr 13, .cw .non]))), .ret (.cmp .eq (.vr 11) (.bin .mul (.lst [.tup [.cw (.str (PySem.Str.ofString "walls")), .vr 10]]) (.cw (.int 3))))]
def sg7 : List Sx := [.iff (.orr [.cmp .ne (.word [] (.call 28 [.vr 12, .tup []])) (.tup [.cw (.str (PySem.Str.ofString "points")), .cw .non]), .cmp .ne (.call 17 [.vr 12]) (.cw (.int 4))]) [.ret (.cw (.bl false))] []]
def ct0_7 : Sl := [none, some (.ref [true]), none, none, some (.tup [.tup [.int (-2), .int 1, .int 2, .int 3]]), none, none, some (.tup [.tup [.int 0, .int 0], .tup [.int 2, .int 5]]), none, none, none, none, none, none, none, none, none, none, none, none]
def ct1_7 : Sl := [none, some (.ref [true]), none, none, some (.tup [.tup [.int (-3), .int 1, .int 3, .int 3]]), none, none, some (.tup [.tup [.int 0, .int 0], .tup [.int 2, .int 5]]), none, none, none, none, none, none, none, none, none, none, none, none]
def ct2_7 : Sl := [none, some (.ref [true]), none, none, some (.tup [.tup [.int (-4), .int 1, .int 4, .int 3]]), none, none, some (.tup [.tup [.int 0, .int 0], .tup [.int 2, .int 5]]), none, none, none, none, none, none, none, none, none, none, none, none]
def ct3_7 : Sl := [none, some (.ref [true]), none, none, some (.tup [.tup [.int (-5), .int 1, .int 5, .int 3]]), none, none, some (.tup [.tup [.int 0, .int 0], .tup [.int 2, .int 5]]), none, none, none, none, none, none, none, none, none, none, none, none]
def ct4_7 : Sl := [none, some (.ref [true]), none, none, some (.tup [.tup [.int (-6), .int 1, .int 6, .int 3]]), none, none, some (.tup [.tup [.int 0, .int 0], .tup [.int 2, .int 5]]), none, none, none, none, none, none, none, none, none, none, none, none]
def ct5_7 : Sl := [none, some (.ref [true]), none, none, some (.tup [.tup [.aff (-2) (-1), .int 1, .aff 2 1, .int 3]]), none, none, some (.tup [.tup [.int 0, .int 0], .tup [.int 2, .int 5]]), none, none, none, none, none, none, none, none, none, none, none, none]
def sg6 : List Sx := [.asg (.nm 12) (.b1 .tuple (.comp (.tup [.cw (.int 0), .vr 14]) (.nm 14) (.rng (.cw (.int 0)) (.cw (.int 5))) [] [14]))]
def ct0_6 : Sl := [none, some (.ref [true]), none, none, some (.tup [.tup [.int (-2), .int 1, .int 2, .int 3]]), none, none, some (.tup [.tup [.int 0, .int 0], .tup [.int 2, .int 5]]), none, none, none, none, some (.tup [.tup [.int 0, .int 0], .tup [.int 0, .int 1], .tup [.int 0, .int 2], .tup [.int 0, .int 3], .tup [.int 0, .int 4]]), none, none, none, none, none, none, none]
def ct1_6 : Sl := [none, some (.ref [true]), none, none, some (.tup [.tup [.int (-3), .int 1, .int 3, .int 3]]), none, none, some (.tup [.tup [.int 0, .int 0], .tup [.int 2, .int 5]]), none, none, none, none, some (.tup [.tup [.int 0, .int 0], .tup [.int 0, .int 1], .tup [.int 0, .int 2], .tup [.int 0, .int 3], .tup [.int 0, .int 4]]), none, none, none, none, none, none, none]
def ct2_6 : Sl := [none, some (.ref [true]), none, none, some (.tup [.tup [.int (-4), .int 1, .int 4, .int 3]]), none, none, some (.tup [.tup [.int 0, .int 0], .tup [.int 2, .int 5]]), none, none, none, none, some (.tup [.tup [.int 0, .int 0], .tup [.int 0, .int 1], .tup [.int 0, .int 2], .tup [.int 0, .int 3], .tup [.int 0, .int 4]]), none, none, none, none, none, none, none]
def ct3_6 : Sl := [none, some (.ref [true]), none, none, some (.tup [.tup [.int (-5), .int 1, .int 5, .int 3]]), none, none, some (.tup [.tup [.int 0, .int 0], .tup [.int 2, .int 5]]), none, none, none, none, some (.tup [.tup [.int 0, .int 0], .tup [.int 0, .int 1], .tup [.int 0, .int 2], .tup [.int 0, .int 3], .tup [.int 0, .int 4]]), none, none, none, none, none, none, none]
def ct4_6 : Sl := [none, some (.ref [true]), none, none, some (.tup [.tup [.int (-6), .int 1, .int 6, .int 3]]), none, none, some (.tup [.tup [.int 0, .int 0], .tup [.int 2, .int 5]]), none, none, none, none, some (.tup [.tup [.int 0, .int 0], .tup [.int 0, .int 1], .tup [.int 0, .int 2], .tup [.int 0, .int 3], .tup [.int 0, .int 4]]), none, none, none, none, none, none, none]
def ct5_6 : Sl := [none, some (.ref [true]), none, none, some (.tup [.tup [.aff (-2) (-1), .int 1, .aff 2 1, .int 3]]), none, none, some (.tup [.tup [.int 0, .int 0], .tup [.int 2, .int 5]]), none, none, none, none, some (.tup [.tup [.int 0, .int 0], .tup [.int 0, .int 1], .tup [.int 0, .int 2], .tup [.int 0, .int 3], .tup [.int 0, .int 4]]), none, none, none, none, none, none, none]
def sg5 : List Sx := [.asg (.tp [.nm 9, .nm 10]) (.call 32 [.vr 1, .lst [.tup [.tup [.tup [.neg (.cw (.int 1)), .cw (.int 0)], .tup [.cw (.int 0), .cw (.int 0)]], .cw (.int 0)], .tup [.tup [.tup [.cw (.int 0), .cw (.int 0)], .tup [.cw (.int 1), .neg (.cw (.int 1))]], .cw (.int 1)], .tup [.tup [.tup [.neg (.cw (.int 1)), .cw (.int 0)], .tup [.cw (.int 0), .cw (.int 0)], .tup [.cw (.int 0), .cw (.int 0)]], .cw (.int 2)]]]), .asg (.nm 11) (.lst [.word [] (.call 17 [.vr 9]), .word [18] (.call 20 [.vr 9, .cw .non])]), .iff (.cmp .ne (.vr 11) (.bin .mul (.lst [.tup [.cw (.str (PySem.Str.ofString "points")), .vr 10]]) (.cw (.int 2)))) [.ret (.cw (.bl false))] []]
def ct0_5 : Sl := [none, some (.ref [true]), none, none, some (.tup [.tup [.int (-2), .int 1, .int 2, .int 3]]), none, none, some (.tup [.tup [.int 0, .int 0], .tup [.int 2, .int 5]]), none, none, none, none, none, none, none, none, none, none, none, none]
def ct1_5 : Sl := [none, some (.ref [true]), none, none, some (.tup [.tup [.int (-3), .int 1, .int 3, .int 3]]), none, none, some (.tup [.tup [.int 0, .int 0], .tup [.int 2, .int 5]]), none, none, none, none, none, none, none, none, none, none, none, none]
def ct2_5 : Sl := [none, some (.ref [true]), none, none, some (.tup [.tup [.int (-4), .int 1, .int 4, .int 3]]), none, none, some (.tup [.tup [.int 0, .int 0], .tup [.int 2, .int 5]]), none, none, none, none, none, none, none, none, none, none, none, none]
def ct3_5 : Sl := [none, some (.ref [true]), none, none, some (.tup [.tup [.int (-5), .int 1, .int 5, .int 3]]), none, none, some (.tup [.tup [.int 0, .int 0], .tup [.int 2, .int 5]]), none, none, none, none, none, none, none, none, none, none, none, none]
def ct4_5 : Sl := [none, some (.ref [true]), none, none, some (.tup [.tup [.int (-6), .int 1, .int 6, .int 3]]), none, none, some (.tup [.tup [.int 0, .int 0], .tup [.int 2, .int 5]]), none, none, none, none, none, none, none, none, none, none, none, none]
def ct5_5 : Sl := [none, some (.ref [true]), none, none, some (.tup [.tup [.aff (-2) (-1), .int 1, .aff 2 1, .int 3]]), none, none, some (.tup [.tup [.int 0, .int 0], .tup [.int 2, .int 5]]), none, none, none, none, none, none, none, none, none, none, none, none]
def sg4 : List Sx := [.iff (.orr [.cmp .ne (.call 21 [.tup [.tup [.cw (.int 1), .cw (.int 3)], .tup [.cw (.int 3), .cw (.int 1)]]]) (.cw (.int 6)), .cmp .ne (.call 17 [.tup [.tup [.cw (.int 1), .cw (.int 3)], .tup [.cw (.int 3), .cw (.int 1)]]]) (.cw (.int 6))]) [.ret (.cw (.bl false))] [], .asg (.nm 7) (.tup [.tup [.cw (.int 0), .cw (.int 0)], .tup [.cw (.int 2), .cw (.int 5)]]), .asg (.nm 8) (.lst [.tup [.cw .non, .cw .non], .tup [.tup [], .cw .non], .tup [.tup [.tup [.cw (.int 0), .cw (.int 0)], .tup [.cw (.int 0), .cw (.int 0)]], .cw (.int 1)], .tup [.tup [.tup [.cw (.int 0), .cw .non]], .cw (.int 0)]]), .asg (.tp [.nm 9, .nm 10]) (.call 32 [.vr 1, .bin .add (.vr 8) (.lst [.tup [.b1 .tuple (.comp (.tup [.cw (.int 0), .vr 14]) (.nm 14) (.rng (.cw (.int 0)) (.cw (.int 6))) [] [14]), .cw .non]])]), .asg (.nm 11) (.lst [.word [] (.call 28 [.vr 9, .cw .non]), .word [15] (.call 29 [.vr 9, .cw .non])]), .asg (.nm 11) (.bin .add (.vr 11) (.lst [.word [] (.call 30 [.vr 9, .cw .non, .cw .non]), .word [16] (.call 17 [.vr 9])])), .asg (.nm 11) (.bin .add (.vr 11) (.lst [.word [] (.call 18 [.vr 9]), .word [17] (.call 21 [.vr 9])])), .ex (.b2 .append (.vr 11) (.word [] (.call 20 [.vr 9, .cw .non]))), .iff (.cmp .ne (.vr 11) (.bin .mul (.lst [.tup [.cw (.str (PySem.Str.ofString "points")), .vr 10]]) (.cw (.int 7)))) [.ret (.cw (.bl false))] []]
def ct0_4 : Sl := [none, some (.ref [true]), none, none, some (.tup [.tup [.int (-2), .int 1, .int 2, .int 3]]), none, none, some (.tup [.tup [.int 0, .int 0], .tup [.int 2, .int 5]]), none, none, none, none, none, none, none, none, none, none, none, none]
def ct1_4 : Sl := [none, some (.ref [true]), none, none, some (.tup [.tup [.int (-3), .int 1, .int 3, .int 3]]), none, none, some (.tup [.tup [.int 0, .int 0], .tup [.int 2, .int 5]]), none, none, none, none, none, none, none, none, none, none, none, none]
def ct2_4 : Sl := [none, some (.ref [true]), none, none, some (.tup [.tup [.int (-4), .int 1, .int 4, .int 3]]), none, none, some (.tup [.tup [.int 0, .int 0], .tup [.int 2, .int 5]]), none, none, none, none, none, none, none, none, none, none, none, none]
def ct3_4 : Sl := [none, some (.ref [true]), none, none, some (.tup [.tup [.int (-5), .int 1, .int 5, .int 3]]), none, none, some (.tup [.tup [.int 0, .int 0], .tup [.int 2, .int 5]]), none, none, none, none, none, none, none, none, none, none, none, none]
def ct4_4 : Sl := [none, some (.ref [true]), none, none, some (.tup [.tup [.int (-6), .int 1, .int 6, .int 3]]), none, none, some (.tup [.tup [.int 0, .int 0], .tup [.int 2, .int 5]]), none, none, none, none, none, none, none, none, none, none, none, none]
def ct5_4 : Sl := [none, some (.ref [true]), none, none, some (.tup [.tup [.aff (-2) (-1), .int 1, .aff 2 1, .int 3]]), none, none, some (.tup [.tup [.int 0, .int 0], .tup [.int 2, .int 5]]), none, none, none, none, none, none, none, none, none, none, none, none]
def sg3 : List Sx := [.iff (.orr [.notB false (.call 30 [.vr 3, .vr 4, .vr 5]), .notB true (.call 30 [.vr 3, .tup [], .vr 5])]) [.ret (.cw (.bl false))] [], .asg (.nm 6) (.tup [.tup [.cw (.int 0), .bin .mul (.cw (.int 2)) (.vr 2)], .tup [.vr 2, .vr 2], .tup [.bin .mul (.cw (.int 2)) (.vr 2), .cw (.int 0)]]), .iff (.orr [.cmp .ne (.call 17 [.vr 6]) (.bin .mul (.cw (.int 5)) (.vr 2)), .cmp .ne (.call 17 [.tup [.tup [.cw (.int 0), .cw (.int 0)]]]) (.cw (.int 0))]) [.ret (.cw (.bl false))] [], .iff (.orr [.cmp .ne (.call 17 [.tup [.tup [.vr 2, .vr 2], .tup [.vr 2, .bin .mul (.cw (.int 2)) (.vr 2)]]]) (.bin .mul (.cw (.int 3)) (.vr 2)), .notB true (.call 20 [.tup [.tup [.cw (.int 0), .cw (.int 0)]], .tup []])]) [.ret (.cw (.bl false))] [], .iff (.notB true (.call 20 [.tup [.tup [.cw (.int 0), .vr 2]], .call 18 [.tup [.tup [.cw (.int 0), .vr 2]]]])) [.ret (.cw (.bl false))] []]
def ct0_3 : Sl := [none, some (.ref [true]), none, none, some (.tup [.tup [.int (-2), .int 1, .int 2, .int 3]]), none, none, none, none, none, none, none, none, none, none, none, none, none, none, none]
def ct1_3 : Sl := [none, some (.ref [true]), none, none, some (.tup [.tup [.int (-3), .int 1, .int 3, .int 3]]), none, none, none, none, none, none, none, none, none, none, none, none, none, none, none]
def ct2_3 : Sl := [none, some (.ref [true]), none, none, some (.tup [.tup [.int (-4), .int 1, .int 4, .int 3]]), none, none, none, none, none, none, none, none, none, none, none, none, none, none, none]
def ct3_3 : Sl := [none, some (.ref [true]), none, none, some (.tup [.tup [.int (-5), .int 1, .int 5, .int 3]]), none, none, none, none, none, none, none, none, none, none, none, none, none, none, none]
def ct4_3 : Sl := [none, some (.ref [true]), none, none, some (.tup [.tup [.int (-6), .int 1, .int 6, .int 3]]), none, none, none, none, none, none, none, none, none, none, none, none, none, none, none]
def ct5_3 : Sl := [none, some (.ref [true]), none, none, some (.tup [.tup [.aff (-2) (-1), .int 1, .aff 2 1, .int 3]]), none, none, none, none, none, none, none, none, none, none, none, none, none, none, none]
def sg2 : List Sx := [.iff (.orr [.cmp .ne (.call 28 [.vr 3, .tup [.tup [.cw (.int 0), .cw (.int 1), .vr 2, .cw (.int 3)]]]) (.cw (.int 4)), .cmp .ne (.call 28 [.vr 3, .tup [.tup [.neg (.cw (.int 1)), .cw (.int 1), .vr 2, .cw (.int 3)]]]) (.cw (.int 6))]) [.ret (.cw (.bl false))] [], .asg (.nm 5) (.tup [.tup [.tup [.cw (.int 0), .cw (.int 0)], .tup [.cw (.int 0), .cw (.int 4)]]])]
def ct0_2 : Sl := [none, some (.ref [true]), some (.int 2), some (.tup [.tup [.int 0, .int 0], .tup [.int 0, .int 4]]), some (.tup [.tup [.int (-2), .int 1, .int 2, .int 3]]), some (.tup [.tup [.tup [.int 0, .int 0], .tup [.int 0, .int 4]]]), none, none, none, none, none, none, none, none, none, none, none, none, none, none]
def ct1_2 : Sl := [none, some (.ref [true]), some (.int 3), some (.tup [.tup [.int 0, .int 0], .tup [.int 0, .int 4]]), some (.tup [.tup [.int (-3), .int 1, .int 3, .int 3]]), some (.tup [.tup [.tup [.int 0, .int 0], .tup [.int 0, .int 4]]]), none, none, none, none, none, none, none, none, none, none, none, none, none, none]
def ct2_2 : Sl := [none, some (.ref [true]), some (.int 4), some (.tup [.tup [.int 0, .int 0], .tup [.int 0, .int 4]]), some (.tup [.tup [.int (-4), .int 1, .int 4, .int 3]]), some (.tup [.tup [.tup [.int 0, .int 0], .tup [.int 0, .int 4]]]), none, none, none, none, none, none, none, none, none, none, none, none, none, none]
def ct3_2 : Sl := [none, some (.ref [true]), some (.int 5), some (.tup [.tup [.int 0, .int 0], .tup [.int 0, .int 4]]), some (.tup [.tup [.int (-5), .int 1, .int 5, .int 3]]), some (.tup [.tup [.tup [.int 0, .int 0], .tup [.int 0, .int 4]]]), none, none, none, none, none, none, none, none, none, none, none, none, none, none]
def ct4_2 : Sl := [none, some (.ref [true]), some (.int 6), some (.tup [.tup [.int 0, .int 0], .tup [.int 0, .int 4]]), some (.tup [.tup [.int (-6), .int 1, .int 6, .int 3]]), some (.tup [.tup [.tup [.int 0, .int 0], .tup [.int 0, .int 4]]]), none, none, none, none, none, none, none, none, none, none, none, none, none, none]
def ct5_2 : Sl := [none, some (.ref [true]), some (.aff 2 1), some (.tup [.tup [.int 0, .int 0], .tup [.int 0, .int 4]]), some (.tup [.tup [.aff (-2) (-1), .int 1, .aff 2 1, .int 3]]), some (.tup [.tup [.tup [.int 0, .int 0], .tup [.int 0, .int 4]]]), none, none, none, none, none, none, none, none, none, none, none, none, none, none]
def sg1 : List Sx := [.par [3, 4] [.tup [.tup [.cw (.int 0), .cw (.int 0)], .tup [.cw (.int 0), .cw (.int 4)]], .tup [.tup [.bin .sub (.cw (.int 0)) (.vr 2), .cw (.int 1), .vr 2, .cw (.int 3)]]], .iff (.orr [.cmp .ne (.call 28 [.vr 3, .vr 4]) (.bin .add (.cw (.int 4)) (.bin .mul (.cw (.int 2)) (.vr 2))), .cmp .ne (.call 28 [.vr 3, .tup []]) (.cw (.int 4)), .cmp .ne (.call 29 [.tup [.tup [.cw (.int 3), .cw (.int 3)]], .tup []]) (.tup [])]) [.ret (.cw (.bl false))] []]
def ct0_1 : Sl := [none, some (.ref [true]), some (.int 2), some (.tup [.tup [.int 0, .int 0], .tup [.int 0, .int 4]]), some (.tup [.tup [.int (-2), .int 1, .int 2, .int 3]]), none, none, none, none, none, none, none, none, none, none, none, none, none, none, none]
def ct1_1 : Sl := [none, some (.ref [true]), some (.int 3), some (.tup [.tup [.int 0, .int 0], .tup [.int 0, .int 4]]), some (.tup [.tup [.int (-3), .int 1, .int 3, .int 3]]), none, none, none, none, none, none, none, none, none, none, none, none, none, none, none]
def ct2_1 : Sl := [none, some (.ref [true]), some (.int 4), some (.tup [.tup [.int 0, .int 0], .tup [.int 0, .int 4]]), some (.tup [.tup [.int (-4), .int 1, .int 4, .int 3]]), none, none, none, none, none, none, none, none, none, none, none, none, none, none, none]
def ct3_1 : Sl := [none, some (.ref [true]), some (.int 5), some (.tup [.tup [.int 0, .int 0], .tup [.int 0, .int 4]]), some (.tup [.tup [.int (-5), .int 1, .int 5, .int 3]]), none, none, none, none, none, none, none, none, none, none, none, none, none, none, none]
def ct4_1 : Sl := [none, some (.ref [true]), some (.int 6), some (.tup [.tup [.int 0, .int 0], .tup [.int 0, .int 4]]), some (.tup [.tup [.int (-6), .int 1, .int 6, .int 3]]), none, none, none, none, none, none, none, none, none, none, none, none, none, none, none]
def ct5_1 : Sl := [none, some (.ref [true]), some (.aff 2 1), some (.tup [.tup [.int 0, .int 0], .tup [.int 0, .int 4]]), some (.tup [.tup [.aff (-2) (-1), .int 1, .aff 2 1, .int 3]]), none, none, none, none, none, none, none, none, none, none, none, none, none, none, none]
def sg0 : List Sx := [.asg (.nm 1) (.lst [.vr 0, .cw (.int 0), .cw (.int 4377), .cw (.int 0)]), .asg (.nm 2) (.bin .add (.cw (.int 2)) (.call 31 [.vr 1, .cw (.int 30)]))]
def ct0_0 : Sl := [none, some (.ref [true]), some (.int 2), none, none, none, none, none, none, none, none, none, none, none, none, none, none, none, none, none]
def ct1_0 : Sl := [none, some (.ref [true]), some (.int 3), none, none, none, none, none, none, none, none, none, none, none, none, none, none, none, none, none]
def ct2_0 : Sl := [none, some (.ref [true]), some (.int 4), none, none, none, none, none, none, none, none, none, none, none, none, none, none, none, none, none]
def ct3_0 : Sl := [none, some (.ref [true]), some (.int 5), none, none, none, none, none, none, none, none, none, none, none, none, none, none, none, none, none]
def ct4_0 : Sl := [none, some (.ref [true]), some (.int 6), none, none, none, none, none, none, none, none, none, none, none, none, none, none, none, none, none]
def ct5_0 : Sl := [none, some (.ref [true]), some (.aff 2 1), none, none, none, none, none, none, none, none, none, none, none, none, none, none, none, none, none]
def sg : List (List Sx) := [sg0, sg1, sg2, sg3, sg4, sg5, sg6, sg7, sg8]
/-- law: _law_script _law_row _law_wide _law_pair _law_shut _law_straight _law_stair _law_good _law_some _law_points _law_index _law_words _law_five _law_shuts _law_at _law_a _law_b _law_c _law_d _law_e -/
def f34 : Fn := ⟨20, sg.flatten⟩
/-- __init__: self web told at place lot other -/
def f35 : Fn := ⟨7, [.asg (.fld (.vr 0) 1) (.vr 1), .asg (.fld (.vr 0) 2) (.vr 2), .asg (.fld (.vr 0) 0) (.dnew false), .asg (.fld (.vr 0) 3) (.dnew true), .fr (.tp [.nm 3, .nm 4]) (.enum (.vr 2)) [.ex (.meth (.vr 0) 2 [.bin .shl (.cw (.int 1)) (.vr 3), .comp (.ite (.cmp .eq (.vr 6) (.vr 4)) (.cw (.int 0)) (.cw .non)) (.nm 6) (.rng (.cw (.int 0)) (.ix (.vr 1) (.cw (.int 0)))) [] [6]])], .fr (.nm 5) (.rng (.cw (.int 1)) (.bin .shl (.cw (.int 1)) (.b1 .len (.vr 2)))) [.iff (.cmp .notin (.vr 5) (.fld (.vr 0) 0)) [.ex (.meth (.vr 0) 2 [.vr 5, .meth (.vr 0) 1 [.vr 5]])] []]]⟩
/-- merged: self lot found part one other place whole -/
def f36 : Fn := ⟨8, [.asg (.nm 2) (.bin .mul (.lst [.cw .non]) (.ix (.fld (.vr 0) 1) (.cw (.int 0)))), .asg (.nm 3) (.bin .band (.bin .sub (.vr 1) (.cw (.int 1))) (.vr 1)), .whl (.cmp .gt (.vr 3) (.cw (.int 0))) [.par [4, 5] [.ix (.fld (.vr 0) 0) (.vr 3), .ix (.fld (.vr 0) 0) (.bin .sub (.vr 1) (.vr 3))], .fr (.nm 6) (.rng (.cw (.int 0)) (.ix (.fld (.vr 0) 1) (.cw (.int 0)))) [.iff (.an [.notN (.ix (.vr 4) (.vr 6)), .notN (.ix (.vr 5) (.vr 6))]) [.asg (.nm 7) (.bin .add (.ix (.vr 4) (.vr 6)) (.ix (.vr 5) (.vr 6))), .iff (.orr [.isN (.ix (.vr 2) (.vr 6)), .cmp .lt (.vr 7) (.ix (.vr 2) (.vr 6))]) [.asg (.ix (.vr 2) (.vr 6)) (.vr 7), .asg (.ix (.fld (.vr 0) 3) (.tup [.vr 1, .vr 6])) (.vr 3)] []] []], .asg (.nm 3) (.bin .band (.bin .sub (.vr 3) (.cw (.int 1))) (.vr 1))], .ret (.vr 2)]⟩
/-- close: self lot start told by place -/
def f37 : Fn := ⟨6, [.asg (.tp [.nm 3, .nm 4]) (.call 4 [.fld (.vr 0) 1, .vr 2]), .asg (.ix (.fld (.vr 0) 0) (.vr 1)) (.vr 3), .fr (.nm 5) (.rng (.cw (.int 0)) (.ix (.fld (.vr 0) 1) (.cw (.int 0)))) [.iff (.notN (.ix (.vr 4) (.vr 5))) [.asg (.ix (.fld (.vr 0) 3) (.tup [.vr 1, .vr 5])) (.tup [.cw (.str (PySem.Str.ofString "way")), .ix (.vr 4) (.vr 5)])] []]]⟩
/-- ties: self lot place how a b -/
def f38 : Fn := ⟨6, [.asg (.nm 3) (.b2 .get (.fld (.vr 0) 3) (.tup [.vr 1, .vr 2])), .iff (.isN (.vr 3)) [.ret (.lst [])] [], .iff (.b1 .isTuple (.vr 3)) [.asg (.tp [.nm 4, .nm 5]) (.sl (.ix (.ix (.fld (.vr 0) 1) (.cw (.int 1))) (.ix (.vr 3) (.cw (.int 1)))) none (some (.cw (.int 2)))), .ret (.bin .add (.lst [.ix (.vr 3) (.cw (.int 1))]) (.meth (.vr 0) 3 [.vr 1, .bin .sub (.bin .add (.vr 4) (.vr 5)) (.vr 2)]))] [], .ret (.bin .add (.meth (.vr 0) 3 [.vr 3, .vr 2]) (.meth (.vr 0) 3 [.bin .sub (.vr 1) (.vr 3), .vr 2]))]⟩
def dft : List Df := [.fn f0, .fn f1, .fn f2, .fn f3, .fn f4, .fn f5, .fn f6, .fn f7, .fn f8, .fn f9, .fn f10, .fn f11, .fn f12, .fn f13, .fn f14, .fn f15, .fn f16, .fn f17, .fn f18, .fn f19, .fn f20, .fn f21, .fn f22, .fn f23, .fn f24, .fn f25, .fn f26, .fn f27, .fn f28, .fn f29, .fn f30, .draw, .fn f32, .word, .fn f34]
def dfm : List Df := [.fn f35, .fn f36, .fn f37, .fn f38]
def df : List Df := dft ++ dfm
def cl : List (List (Nat × Nat × Nat)) := [[(0, 35, 3), (1, 36, 2), (2, 37, 3), (3, 38, 3)]]
def gv : List W := [.int 6, .int 99, .int 5, .int 4, .int 3]
def law : Nat := 34
def wd : List (PySem.Str × Bool) := [(PySem.Str.ofString "other", false), (PySem.Str.ofString "points", true), (PySem.Str.ofString "walls", true)]
def ar : List Nat := [1, 3, 2, 1, 2, 2, 2, 2, 4, 3, 1, 1, 2, 1, 1, 1, 1, 1, 1, 2, 2, 1, 1, 2, 2, 3, 2, 2, 2, 2, 3, 2, 2, 1, 1]
def pg (lo hi : Int) : Pg := ⟨df, cl, gv, lo, hi, 30, 4377, wd, ar⟩
end K64
namespace K64
open PySem PySem.Spec PyProof.Rows L2 Jw
noncomputable section
abbrev prog : Program := PySem.Challenge.pw_joinworks_k64_known_walls_and_rising_joi
def ds : List Stmt := defsOf prog
def Ns : List (List Str) := [([("value" : Str)] : List Str), ([("value" : Str), ("least" : Str), ("most" : Str)] : List Str), ([("parent" : Str), ("place" : Str)] : List Str), ([("web" : Str), ("found" : Str), ("index" : Str), ("a" : Str), ("b" : Str), ("cost" : Str), ("place" : Str)] : List Str), ([("web" : Str), ("start" : Str), ("near" : Str), ("told" : Str), ("by" : Str), ("open_places" : Str), ("here" : Str), ("other" : Str), ("cost" : Str), ("index" : Str), ("place" : Str)] : List Str), ([("web" : Str), ("told" : Str), ("table" : Str), ("whole" : Str), ("last" : Str)] : List Str), ([("web" : Str), ("start" : Str), ("told" : Str), ("by" : Str), ("found" : Str), ("index" : Str), ("a" : Str), ("b" : Str), ("cost" : Str)] : List Str), ([("web" : Str), ("told" : Str), ("best" : Str), ("made" : Str), ("lot" : Str), ("start" : Str), ("at" : Str), ("place" : Str), ("part" : Str), ("one" : Str), ("other" : Str), ("by" : Str)] : List Str), ([("web" : Str), ("made" : Str), ("lot" : Str), ("place" : Str), ("how" : Str)] : List Str), ([("web" : Str), ("root" : Str), ("told" : Str), ("best" : Str), ("made" : Str), ("whole" : Str)] : List Str), ([("value" : Str)] : List Str), ([("value" : Str), ("index" : Str), ("point" : Str)] : List Str), ([("one" : Str), ("other" : Str)] : List Str), ([("value" : Str)] : List Str), ([("value" : Str), ("index" : Str), ("point" : Str)] : List Str), ([("points" : Str), ("rows" : Str), ("lines" : Str), ("places" : Str), ("spots" : Str), ("roads" : Str), ("place" : Str), ("point" : Str), ("at" : Str), ("x" : Str), ("line" : Str), ("y" : Str)] : List Str), ([("points" : Str), ("places" : Str), ("roads" : Str), ("told" : Str), ("length" : Str), ("lot" : Str), ("index" : Str)] : List Str), ([("points" : Str)] : List Str), ([("points" : Str)] : List Str), ([("pieces" : Str), ("points" : Str), ("held" : Str), ("turn" : Str), ("one" : Str), ("other" : Str), ("point" : Str)] : List Str), ([("points" : Str), ("value" : Str), ("piece" : Str), ("at" : Str), ("one" : Str), ("other" : Str)] : List Str), ([("points" : Str), ("left" : Str), ("total" : Str), ("pairs" : Str), ("at" : Str), ("one" : Str), ("other" : Str), ("meet" : Str), ("height" : Str), ("point" : Str)] : List Str), ([("value" : Str), ("one" : Str)] : List Str), ([("wall" : Str), ("point" : Str)] : List Str), ([("points" : Str), ("walls" : Str), ("index" : Str), ("wall" : Str), ("point" : Str)] : List Str), ([("walls" : Str), ("one" : Str), ("other" : Str), ("left" : Str), ("low" : Str), ("right" : Str), ("high" : Str)] : List Str), ([("points" : Str), ("walls" : Str), ("rows" : Str), ("lines" : Str), ("places" : Str), ("spots" : Str), ("ties" : Str), ("place" : Str), ("point" : Str), ("at" : Str), ("x" : Str), ("line" : Str), ("y" : Str), ("here" : Str), ("ahead" : Str), ("other" : Str), ("wall" : Str)] : List Str), ([("points" : Str), ("walls" : Str), ("places" : Str), ("web" : Str), ("told" : Str), ("length" : Str), ("lot" : Str), ("index" : Str)] : List Str), ([("points" : Str), ("walls" : Str)] : List Str), ([("points" : Str), ("walls" : Str)] : List Str), ([("points" : Str), ("walls" : Str), ("value" : Str), ("ends" : Str), ("parent" : Str), ("point" : Str), ("one" : Str), ("other" : Str), ("piece" : Str), ("at" : Str), ("end" : Str)] : List Str), ([("_law_row" : Str), ("_law_many" : Str), ("_law_found" : Str), ("_law_cell" : Str)] : List Str), ([("_law_row" : Str), ("_law_things" : Str)] : List Str), ([("_law_work" : Str), ("_law_found" : Str), ("_law_e" : Str), ("_law_known" : Str), ("_law_words" : Str)] : List Str), ([("_law_script" : Str), ("_law_row" : Str), ("_law_wide" : Str), ("_law_pair" : Str), ("_law_shut" : Str), ("_law_straight" : Str), ("_law_stair" : Str), ("_law_good" : Str), ("_law_some" : Str), ("_law_points" : Str), ("_law_index" : Str), ("_law_words" : Str), ("_law_five" : Str), ("_law_shuts" : Str), ("_law_at" : Str), ("_law_a" : Str), ("_law_b" : Str), ("_law_c" : Str), ("_law_d" : Str), ("_law_e" : Str)] : List Str)]
def gnv : List (Str × Int) := [("MOST_POINTS", 6), ("FAR", 99), ("MOST_HERE_rising", 5), ("MOST_HERE_walls", 4), ("MOST_WALLS", 3)]
def ci : CI := ⟨(["best", "net", "wanted", "made"] : List Str), (["__init__", "merged", "close", "ties"] : List Str), (["Table"] : List Str)⟩
def md : List (Str × Stmt) := ci.cn.flatMap fun x => (clsBody prog x).map fun s => (x, s)
def Nm : List (List Str) := [([("self" : Str), ("web" : Str), ("told" : Str), ("at" : Str), ("place" : Str), ("lot" : Str), ("other" : Str)] : List Str), ([("self" : Str), ("lot" : Str), ("found" : Str), ("part" : Str), ("one" : Str), ("other" : Str), ("place" : Str), ("whole" : Str)] : List Str), ([("self" : Str), ("lot" : Str), ("start" : Str), ("told" : Str), ("by" : Str), ("place" : Str)] : List Str), ([("self" : Str), ("lot" : Str), ("place" : Str), ("how" : Str), ("a" : Str), ("b" : Str)] : List Str)]
theorem clb_ok : clB ci ds.length md cl = true := by decide +kernel
abbrev sT : Stmt := ds.getD 31 noSt
def isFnD : Df → Bool
  | .fn _ => true
  | _ => false
theorem ar_ok0 : ar = (nmL ds).map (·.2) := by decide +kernel
theorem ar_ok {lo hi : Int} : (pg lo hi).ar = (nmL ds).map (·.2) := ar_ok0
theorem gv_ok (lo hi : Int) : (pg lo hi).gv = gnv.map fun g => W.int g.2 := rfl
def lf : List (Str × Option Str) := [("spread", none), ("law", none)]
def ecl : List EcD := [("JoinError", none), ("BadPoints", some ("index", "self", "index")), ("BadWalls", some ("index", "self", "index"))]
def wdd : WdD := ⟨wd, "JoinError", 5, 1, 2, [.asg 3 (.lb (["BadPoints", "BadWalls"] : List PySem.Str)), .asg 4 (.ls (["points", "walls"] : List PySem.Str)), .asg 1 (.ite (.an (.one 3) (.isE "ValueError")) (.pick 4 3) (.st "other")), .asg 1 (.ite (.ins (.vr 1) (.vr 4)) (.pr (.vr 1) "index") (.vr 1))]⟩
def wdo : Option WdD := some wdd
def wdn : Option Str := some "_law_word"
theorem kw_ok : kWd (Ns.getD 33 []) (defScope (ds.getD 33 noSt)) wdd.ifd wdd.ie "_law_work" "_law_found" "_law_e" wdd.jN wdd.l (defBody (ds.getD 33 noSt)) = true := by decide +kernel
theorem kw_sc : scB (Ns.getD 33 []) ["_law_work"] (defScope (ds.getD 33 noSt)) = true := by decide +kernel
theorem kw_lo : loN (Ns.getD 33 []) (defScope (ds.getD 33 noSt)) "_law_work" 0 = true := by decide +kernel
theorem chk_ok : chkAll (nmL ds) (gnv.map (·.1)) lf (enOf ecl) wdn ci ds Ns dft = true := by decide +kernel
theorem chm_ok : chkMs (nmL ds) (gnv.map (·.1)) lf (enOf ecl) wdn ci md Nm dfm = true := by decide +kernel
theorem b0 : BindP (ds.getD 0 noSt) := fun _ _ _ _ _ _ _ us hl => match us, hl with | [_], _ => rfl
theorem b1 : BindP (ds.getD 1 noSt) := fun _ _ _ _ _ _ _ us hl => match us, hl with | [_, _, _], _ => rfl
theorem b2 : BindP (ds.getD 2 noSt) := fun _ _ _ _ _ _ _ us hl => match us, hl with | [_, _], _ => rfl
theorem b3 : BindP (ds.getD 3 noSt) := fun _ _ _ _ _ _ _ us hl => match us, hl with | [_], _ => rfl
theorem b4 : BindP (ds.getD 4 noSt) := fun _ _ _ _ _ _ _ us hl => match us, hl with | [_, _], _ => rfl
theorem b5 : BindP (ds.getD 5 noSt) := fun _ _ _ _ _ _ _ us hl => match us, hl with | [_, _], _ => rfl
theorem b6 : BindP (ds.getD 6 noSt) := fun _ _ _ _ _ _ _ us hl => match us, hl with | [_, _], _ => rfl
theorem b7 : BindP (ds.getD 7 noSt) := fun _ _ _ _ _ _ _ us hl => match us, hl with | [_, _], _ => rfl
theorem b8 : BindP (ds.getD 8 noSt) := fun _ _ _ _ _ _ _ us hl => match us, hl with | [_, _, _, _], _ => rfl
theorem b9 : BindP (ds.getD 9 noSt) := fun _ _ _ _ _ _ _ us hl => match us, hl with | [_, _, _], _ => rfl
theorem b10 : BindP (ds.getD 10 noSt) := fun _ _ _ _ _ _ _ us hl => match us, hl with | [_], _ => rfl
theorem b11 : BindP (ds.getD 11 noSt) := fun _ _ _ _ _ _ _ us hl => match us, hl with | [_], _ => rfl
theorem b12 : BindP (ds.getD 12 noSt) := fun _ _ _ _ _ _ _ us hl => match us, hl with | [_, _], _ => rfl
theorem b13 : BindP (ds.getD 13 noSt) := fun _ _ _ _ _ _ _ us hl => match us, hl with | [_], _ => rfl
theorem b14 : BindP (ds.getD 14 noSt) := fun _ _ _ _ _ _ _ us hl => match us, hl with | [_], _ => rfl
theorem b15 : BindP (ds.getD 15 noSt) := fun _ _ _ _ _ _ _ us hl => match us, hl with | [_], _ => rfl
theorem b16 : BindP (ds.getD 16 noSt) := fun _ _ _ _ _ _ _ us hl => match us, hl with | [_], _ => rfl
theorem b17 : BindP (ds.getD 17 noSt) := fun _ _ _ _ _ _ _ us hl => match us, hl with | [_], _ => rfl
theorem b18 : BindP (ds.getD 18 noSt) := fun _ _ _ _ _ _ _ us hl => match us, hl with | [_], _ => rfl
theorem b19 : BindP (ds.getD 19 noSt) := fun _ _ _ _ _ _ _ us hl => match us, hl with | [_, _], _ => rfl
theorem b20 : BindP (ds.getD 20 noSt) := fun _ _ _ _ _ _ _ us hl => match us, hl with | [_, _], _ => rfl
theorem b21 : BindP (ds.getD 21 noSt) := fun _ _ _ _ _ _ _ us hl => match us, hl with | [_], _ => rfl
theorem b22 : BindP (ds.getD 22 noSt) := fun _ _ _ _ _ _ _ us hl => match us, hl with | [_], _ => rfl
theorem b23 : BindP (ds.getD 23 noSt) := fun _ _ _ _ _ _ _ us hl => match us, hl with | [_, _], _ => rfl
theorem b24 : BindP (ds.getD 24 noSt) := fun _ _ _ _ _ _ _ us hl => match us, hl with | [_, _], _ => rfl
theorem b25 : BindP (ds.getD 25 noSt) := fun _ _ _ _ _ _ _ us hl => match us, hl with | [_, _, _], _ => rfl
theorem b26 : BindP (ds.getD 26 noSt) := fun _ _ _ _ _ _ _ us hl => match us, hl with | [_, _], _ => rfl
theorem b27 : BindP (ds.getD 27 noSt) := fun _ _ _ _ _ _ _ us hl => match us, hl with | [_, _], _ => rfl
theorem b28 : BindP (ds.getD 28 noSt) := fun _ _ _ _ _ _ _ us hl => match us, hl with | [_, _], _ => rfl
theorem b29 : BindP (ds.getD 29 noSt) := fun _ _ _ _ _ _ _ us hl => match us, hl with | [_, _], _ => rfl
theorem b30 : BindP (ds.getD 30 noSt) := fun _ _ _ _ _ _ _ us hl => match us, hl with | [_, _, _], _ => rfl
theorem b31 : BindP (ds.getD 31 noSt) := fun _ _ _ _ _ _ _ us hl => match us, hl with | [_, _], _ => rfl
theorem b32 : BindP (ds.getD 32 noSt) := fun _ _ _ _ _ _ _ us hl => match us, hl with | [_, _], _ => rfl
theorem b33 : BindP (ds.getD 33 noSt) := fun _ _ _ _ _ _ _ us hl => match us, hl with | [_], _ => rfl
theorem b34 : BindP (ds.getD 34 noSt) := fun _ _ _ _ _ _ _ us hl => match us, hl with | [_], _ => rfl
theorem bm0 : BindP (md.getD 0 ("", noSt)).2 := fun _ _ _ _ _ _ _ us hl => match us, hl with | [_, _, _], _ => rfl
theorem bm1 : BindP (md.getD 1 ("", noSt)).2 := fun _ _ _ _ _ _ _ us hl => match us, hl with | [_, _], _ => rfl
theorem bm2 : BindP (md.getD 2 ("", noSt)).2 := fun _ _ _ _ _ _ _ us hl => match us, hl with | [_, _, _], _ => rfl
theorem bm3 : BindP (md.getD 3 ("", noSt)).2 := fun _ _ _ _ _ _ _ us hl => match us, hl with | [_, _, _], _ => rfl
theorem md_eq : md.map (·.2) = [(md.getD 0 ("", noSt)).2, (md.getD 1 ("", noSt)).2, (md.getD 2 ("", noSt)).2, (md.getD 3 ("", noSt)).2] := rfl
theorem bindsM : Jw.AllP BindP (md.map (·.2)) := by
  rw [md_eq]
  exact .cons bm0 (.cons bm1 (.cons bm2 (.cons bm3 (.nil))))
theorem ds_eq : ds = [ds.getD 0 noSt, ds.getD 1 noSt, ds.getD 2 noSt, ds.getD 3 noSt, ds.getD 4 noSt, ds.getD 5 noSt, ds.getD 6 noSt, ds.getD 7 noSt, ds.getD 8 noSt, ds.getD 9 noSt, ds.getD 10 noSt, ds.getD 11 noSt, ds.getD 12 noSt, ds.getD 13 noSt, ds.getD 14 noSt, ds.getD 15 noSt, ds.getD 16 noSt, ds.getD 17 noSt, ds.getD 18 noSt, ds.getD 19 noSt, ds.getD 20 noSt, ds.getD 21 noSt, ds.getD 22 noSt, ds.getD 23 noSt, ds.getD 24 noSt, ds.getD 25 noSt, ds.getD 26 noSt, ds.getD 27 noSt, ds.getD 28 noSt, ds.getD 29 noSt, ds.getD 30 noSt, ds.getD 31 noSt, ds.getD 32 noSt, ds.getD 33 noSt, ds.getD 34 noSt] := rfl
theorem binds : Jw.AllP BindP ds := by
  rw [ds_eq]
  exact .cons b0 (.cons b1 (.cons b2 (.cons b3 (.cons b4 (.cons b5 (.cons b6 (.cons b7 (.cons b8 (.cons b9 (.cons b10 (.cons b11 (.cons b12 (.cons b13 (.cons b14 (.cons b15 (.cons b16 (.cons b17 (.cons b18 (.cons b19 (.cons b20 (.cons b21 (.cons b22 (.cons b23 (.cons b24 (.cons b25 (.cons b26 (.cons b27 (.cons b28 (.cons b29 (.cons b30 (.cons b31 (.cons b32 (.cons b33 (.cons b34 (.nil)))))))))))))))))))))))))))))))))))
theorem scTk : FnScope Ntk ["_law_row", "_law_many"] (defScope sT) := ⟨rfl, rfl, rfl, by decide +kernel, rfl, by decide +kernel, by decide +kernel⟩
theorem taken {P : Program} {w : World} {K : PySem.W.Frag} {mg : Str → Option Value} {base : Heap} {f : Addr} {fd : FuncData} {C : Cn} {Γ : Pg} (hx : C.x = xOf C.ns Γ.seed Γ.many) (Rg : Rng Γ C) (F : L2.Fun K "_law_taken" "_law_taken" sT f fd) (g1 : mg "int" = none) (g2 : mg "len" = none) : FnOk P w K mg base CX0 1 f fd ["_law_row", "_law_many"] (spF K C 2 fun ws m => drawW Γ ws m) := by
  refine F.ok scTk (fun vs H Q E h => h.1) fun cdv A outer s H vs Q E hr ⟨hl, ι, m, ws, S, r, p⟩ => ?_
  apply Exists.intro
  apply And.intro
  case left =>
    exact pss_cons (ps_if (pt_cmp (pc_gt (pe_ix ix_list (pv 0) pe_int (fun _ _ => rfl)) pe_int))
      (pss_cons (ps_set (i := 2) scTk.nd rfl (.inl rfl) (pe_op op_modN (pe_callTy call_int1 rfl g1 boot_intT (pa_cons (pe_ix ix_list (pv 0) pe_int (fun _ _ => rfl)) pa_nil)) (pv 1)))
        (pss_cons (ps_asg (pe_op op_fdivN (pe_ix ix_list (pv 0) pe_int (fun _ _ => rfl)) (pv 1)) (pg_sub (pv 0) pe_int set_list))
          (pss_one (ps_ret (pv 2))))) pss_nil) (
    pss_cons (ps_asg (pe_op op_add (pe_ix ix_list (pv 0) pe_int (fun _ _ => rfl)) pe_int) (pg_sub (pv 0) pe_int set_list)) (
    pss_cons (ps_if (pt_cmp (pc_gt (pe_ix ix_list (pv 0) pe_int (fun _ _ => rfl)) (pe_callB call_len rfl g2 boot_lenB (pa_cons (pe_ix ix_list (pv 0) pe_int (fun _ _ => rfl)) pa_nil))))
      (pss_cons (ps_asg (pe_op op_modN (pe_callTy call_int1 rfl g1 boot_intT (pa_cons (pe_op op_add (pe_op op_mul (pe_ix ix_list (pv 0) pe_int (fun _ _ => rfl)) pe_int) pe_int) pa_nil)) pe_int) (pg_sub (pv 0) pe_int set_list))
        (pss_one (ps_ret (pe_op op_modN (pe_callTy call_int1 rfl g1 boot_intT (pa_cons (pe_op op_fdivN (pe_ix ix_list (pv 0) pe_int (fun _ _ => rfl)) pe_int) pa_nil)) (pv 1))))) pss_nil) (
    pss_cons (ps_set (i := 3) scTk.nd rfl (.inl rfl) (pe_ix ix_list (pe_ix ix_list (pv 0) pe_int (fun _ _ => rfl)) (pe_op op_sub (pe_ix ix_list (pv 0) pe_int (fun _ _ => rfl)) pe_int) (fun _ _ => rfl))) (
    pss_cons (ps_asg (pe_op op_modN (pe_callTy call_int1 rfl g1 boot_intT (pa_cons (pe_op op_add (pe_op op_add (pe_op op_mul (pe_ix ix_list (pv 0) pe_int (fun _ _ => rfl)) pe_int) (pv 3)) pe_int) pa_nil)) pe_int) (pg_sub (pv 0) pe_int set_list)) (
    pss_cons (ps_if (pt_cmp (pc_ge (pv 3) (pe_op op_pow pe_int pe_int)))
      (pss_one (ps_asg (pe_op op_fdivN (pv 3) (pv 1)) (pg_sub (pv 0) pe_int set_list))) pss_nil) (
    pss_one (ps_ret (pe_op op_modN (pe_callTy call_int1 rfl g1 boot_intT (pa_cons (pv 3) pa_nil)) (pv 1)))))))))
  case right => exact taken_post hx Rg S r (draw_noX p)
abbrev R : PySem.W.OpenRow := PySem.W.OpenLaw.row PySem.Challenge.rw_joinworks_k64_known_walls_and_rising_joi
def fa : List He.Fa := faL ds gnv ci md
def fn : List He.DefD := fnsL ds md
def tf : List He.Defn := lf
abbrev hk : PySem.W.Hook := hookY 5 fa fn [] tf (exB2 lf R.prog ecl wdo)
def ob (s : PySem.W.SharedT) : He.AlX := obsY 5 fa fn [] tf (exB2 lf R.prog ecl wdo) (HandSHeadRun.getT s)
theorem ob_eq (s : PySem.W.SharedT) : ob s = hk.obs s.abs := obsY_eq (HandSHeadRun.getT_eq s)
def loose0 : List Str := ["JoinError", "BadPoints", "BadWalls", "is_int", "is_from", "root_of", "neighbors_of", "spread", "Table", "least_join", "closed", "filled", "told_roads", "out_join", "MOST_POINTS", "FAR", "is_point", "need_points", "far", "is_piece", "MOST_HERE_rising", "need_high", "rising_web", "rising_join", "rising_price", "rising_pieces", "leads_up", "shows_rising", "rising_greedy", "MOST_HERE_walls"]
def loose1 : List Str := ["MOST_WALLS", "is_wall", "is_inside", "need_walled", "is_barred", "walled_web", "walled_join", "walled_price", "walled_pieces", "shows_around", "_law_taken", "_law_pick", "_law_word"]
def loose : List Str := loose0 ++ loose1
set_option maxHeartbeats 0 in
theorem run (w : World) : HandSHeadRun.RunEq R (PySem.W.view R.prog [52]) hk ob 3580 loose w := by
  intro os
  kernel_rfl
abbrev st0 : Sl := startW f34.n [.ref []]
theorem run0_0 : segOk (leOk [true] ct0_0) ((ev (pg (0) (0)) 100000).s 39 sg0 st0 m0) = true := by decide +kernel
theorem run0_1 : segOk (leOk [true] ct0_1) ((ev (pg (0) (0)) 100000).s 39 sg1 ct0_0 (cutM [true])) = true := by decide +kernel
theorem run0_2 : segOk (leOk [true] ct0_2) ((ev (pg (0) (0)) 100000).s 39 sg2 ct0_1 (cutM [true])) = true := by decide +kernel
theorem run0_3 : segOk (leOk [true] ct0_3) ((ev (pg (0) (0)) 100000).s 39 sg3 ct0_2 (cutM [true])) = true := by decide +kernel
theorem run0_4 : segOk (leOk [true] ct0_4) ((ev (pg (0) (0)) 100000).s 39 sg4 ct0_3 (cutM [true])) = true := by decide +kernel
theorem run0_5 : segOk (leOk [true] ct0_5) ((ev (pg (0) (0)) 100000).s 39 sg5 ct0_4 (cutM [true])) = true := by decide +kernel
theorem run0_6 : segOk (leOk [true] ct0_6) ((ev (pg (0) (0)) 100000).s 39 sg6 ct0_5 (cutM [true])) = true := by decide +kernel
theorem run0_7 : segOk (leOk [true] ct0_7) ((ev (pg (0) (0)) 100000).s 39 sg7 ct0_6 (cutM [true])) = true := by decide +kernel
theorem run0_8 : segOk (fun _ _ => false) ((ev (pg (0) (0)) 100000).s 39 sg8 ct0_7 (cutM [true])) = true := by decide +kernel
theorem run0 : SegsP (pg (0) (0)) 100000 39 [true] sg st0 m0 := .cons ct0_0 run0_0 (.cons ct0_1 run0_1 (.cons ct0_2 run0_2 (.cons ct0_3 run0_3 (.cons ct0_4 run0_4 (.cons ct0_5 run0_5 (.cons ct0_6 run0_6 (.cons ct0_7 run0_7 (.last run0_8))))))))
theorem run1_0 : segOk (leOk [true] ct1_0) ((ev (pg (1) (1)) 100000).s 39 sg0 st0 m0) = true := by decide +kernel
theorem run1_1 : segOk (leOk [true] ct1_1) ((ev (pg (1) (1)) 100000).s 39 sg1 ct1_0 (cutM [true])) = true := by decide +kernel
theorem run1_2 : segOk (leOk [true] ct1_2) ((ev (pg (1) (1)) 100000).s 39 sg2 ct1_1 (cutM [true])) = true := by decide +kernel
theorem run1_3 : segOk (leOk [true] ct1_3) ((ev (pg (1) (1)) 100000).s 39 sg3 ct1_2 (cutM [true])) = true := by decide +kernel
theorem run1_4 : segOk (leOk [true] ct1_4) ((ev (pg (1) (1)) 100000).s 39 sg4 ct1_3 (cutM [true])) = true := by decide +kernel
theorem run1_5 : segOk (leOk [true] ct1_5) ((ev (pg (1) (1)) 100000).s 39 sg5 ct1_4 (cutM [true])) = true := by decide +kernel
theorem run1_6 : segOk (leOk [true] ct1_6) ((ev (pg (1) (1)) 100000).s 39 sg6 ct1_5 (cutM [true])) = true := by decide +kernel
theorem run1_7 : segOk (leOk [true] ct1_7) ((ev (pg (1) (1)) 100000).s 39 sg7 ct1_6 (cutM [true])) = true := by decide +kernel
theorem run1_8 : segOk (fun _ _ => false) ((ev (pg (1) (1)) 100000).s 39 sg8 ct1_7 (cutM [true])) = true := by decide +kernel
theorem run1 : SegsP (pg (1) (1)) 100000 39 [true] sg st0 m0 := .cons ct1_0 run1_0 (.cons ct1_1 run1_1 (.cons ct1_2 run1_2 (.cons ct1_3 run1_3 (.cons ct1_4 run1_4 (.cons ct1_5 run1_5 (.cons ct1_6 run1_6 (.cons ct1_7 run1_7 (.last run1_8))))))))
theorem run2_0 : segOk (leOk [true] ct2_0) ((ev (pg (2) (2)) 100000).s 39 sg0 st0 m0) = true := by decide +kernel
theorem run2_1 : segOk (leOk [true] ct2_1) ((ev (pg (2) (2)) 100000).s 39 sg1 ct2_0 (cutM [true])) = true := by decide +kernel
theorem run2_2 : segOk (leOk [true] ct2_2) ((ev (pg (2) (2)) 100000).s 39 sg2 ct2_1 (cutM [true])) = true := by decide +kernel
theorem run2_3 : segOk (leOk [true] ct2_3) ((ev (pg (2) (2)) 100000).s 39 sg3 ct2_2 (cutM [true])) = true := by decide +kernel
theorem run2_4 : segOk (leOk [true] ct2_4) ((ev (pg (2) (2)) 100000).s 39 sg4 ct2_3 (cutM [true])) = true := by decide +kernel
theorem run2_5 : segOk (leOk [true] ct2_5) ((ev (pg (2) (2)) 100000).s 39 sg5 ct2_4 (cutM [true])) = true := by decide +kernel
theorem run2_6 : segOk (leOk [true] ct2_6) ((ev (pg (2) (2)) 100000).s 39 sg6 ct2_5 (cutM [true])) = true := by decide +kernel
theorem run2_7 : segOk (leOk [true] ct2_7) ((ev (pg (2) (2)) 100000).s 39 sg7 ct2_6 (cutM [true])) = true := by decide +kernel
theorem run2_8 : segOk (fun _ _ => false) ((ev (pg (2) (2)) 100000).s 39 sg8 ct2_7 (cutM [true])) = true := by decide +kernel
theorem run2 : SegsP (pg (2) (2)) 100000 39 [true] sg st0 m0 := .cons ct2_0 run2_0 (.cons ct2_1 run2_1 (.cons ct2_2 run2_2 (.cons ct2_3 run2_3 (.cons ct2_4 run2_4 (.cons ct2_5 run2_5 (.cons ct2_6 run2_6 (.cons ct2_7 run2_7 (.last run2_8))))))))
theorem run3_0 : segOk (leOk [true] ct3_0) ((ev (pg (3) (3)) 100000).s 39 sg0 st0 m0) = true := by decide +kernel
theorem run3_1 : segOk (leOk [true] ct3_1) ((ev (pg (3) (3)) 100000).s 39 sg1 ct3_0 (cutM [true])) = true := by decide +kernel
theorem run3_2 : segOk (leOk [true] ct3_2) ((ev (pg (3) (3)) 100000).s 39 sg2 ct3_1 (cutM [true])) = true := by decide +kernel
theorem run3_3 : segOk (leOk [true] ct3_3) ((ev (pg (3) (3)) 100000).s 39 sg3 ct3_2 (cutM [true])) = true := by decide +kernel
theorem run3_4 : segOk (leOk [true] ct3_4) ((ev (pg (3) (3)) 100000).s 39 sg4 ct3_3 (cutM [true])) = true := by decide +kernel
theorem run3_5 : segOk (leOk [true] ct3_5) ((ev (pg (3) (3)) 100000).s 39 sg5 ct3_4 (cutM [true])) = true := by decide +kernel
theorem run3_6 : segOk (leOk [true] ct3_6) ((ev (pg (3) (3)) 100000).s 39 sg6 ct3_5 (cutM [true])) = true := by decide +kernel
theorem run3_7 : segOk (leOk [true] ct3_7) ((ev (pg (3) (3)) 100000).s 39 sg7 ct3_6 (cutM [true])) = true := by decide +kernel
theorem run3_8 : segOk (fun _ _ => false) ((ev (pg (3) (3)) 100000).s 39 sg8 ct3_7 (cutM [true])) = true := by decide +kernel
theorem run3 : SegsP (pg (3) (3)) 100000 39 [true] sg st0 m0 := .cons ct3_0 run3_0 (.cons ct3_1 run3_1 (.cons ct3_2 run3_2 (.cons ct3_3 run3_3 (.cons ct3_4 run3_4 (.cons ct3_5 run3_5 (.cons ct3_6 run3_6 (.cons ct3_7 run3_7 (.last run3_8))))))))
theorem run4_0 : segOk (leOk [true] ct4_0) ((ev (pg (4) (4)) 100000).s 39 sg0 st0 m0) = true := by decide +kernel
theorem run4_1 : segOk (leOk [true] ct4_1) ((ev (pg (4) (4)) 100000).s 39 sg1 ct4_0 (cutM [true])) = true := by decide +kernel
theorem run4_2 : segOk (leOk [true] ct4_2) ((ev (pg (4) (4)) 100000).s 39 sg2 ct4_1 (cutM [true])) = true := by decide +kernel
theorem run4_3 : segOk (leOk [true] ct4_3) ((ev (pg (4) (4)) 100000).s 39 sg3 ct4_2 (cutM [true])) = true := by decide +kernel
theorem run4_4 : segOk (leOk [true] ct4_4) ((ev (pg (4) (4)) 100000).s 39 sg4 ct4_3 (cutM [true])) = true := by decide +kernel
theorem run4_5 : segOk (leOk [true] ct4_5) ((ev (pg (4) (4)) 100000).s 39 sg5 ct4_4 (cutM [true])) = true := by decide +kernel
theorem run4_6 : segOk (leOk [true] ct4_6) ((ev (pg (4) (4)) 100000).s 39 sg6 ct4_5 (cutM [true])) = true := by decide +kernel
theorem run4_7 : segOk (leOk [true] ct4_7) ((ev (pg (4) (4)) 100000).s 39 sg7 ct4_6 (cutM [true])) = true := by decide +kernel
theorem run4_8 : segOk (fun _ _ => false) ((ev (pg (4) (4)) 100000).s 39 sg8 ct4_7 (cutM [true])) = true := by decide +kernel
theorem run4 : SegsP (pg (4) (4)) 100000 39 [true] sg st0 m0 := .cons ct4_0 run4_0 (.cons ct4_1 run4_1 (.cons ct4_2 run4_2 (.cons ct4_3 run4_3 (.cons ct4_4 run4_4 (.cons ct4_5 run4_5 (.cons ct4_6 run4_6 (.cons ct4_7 run4_7 (.last run4_8))))))))
theorem run5_0 : segOk (leOk [true] ct5_0) ((ev (pg (5) (29)) 100000).s 39 sg0 st0 m0) = true := by decide +kernel
theorem run5_1 : segOk (leOk [true] ct5_1) ((ev (pg (5) (29)) 100000).s 39 sg1 ct5_0 (cutM [true])) = true := by decide +kernel
theorem run5_2 : segOk (leOk [true] ct5_2) ((ev (pg (5) (29)) 100000).s 39 sg2 ct5_1 (cutM [true])) = true := by decide +kernel
theorem run5_3 : segOk (leOk [true] ct5_3) ((ev (pg (5) (29)) 100000).s 39 sg3 ct5_2 (cutM [true])) = true := by decide +kernel
theorem run5_4 : segOk (leOk [true] ct5_4) ((ev (pg (5) (29)) 100000).s 39 sg4 ct5_3 (cutM [true])) = true := by decide +kernel
theorem run5_5 : segOk (leOk [true] ct5_5) ((ev (pg (5) (29)) 100000).s 39 sg5 ct5_4 (cutM [true])) = true := by decide +kernel
theorem run5_6 : segOk (leOk [true] ct5_6) ((ev (pg (5) (29)) 100000).s 39 sg6 ct5_5 (cutM [true])) = true := by decide +kernel
theorem run5_7 : segOk (leOk [true] ct5_7) ((ev (pg (5) (29)) 100000).s 39 sg7 ct5_6 (cutM [true])) = true := by decide +kernel
theorem run5_8 : segOk (fun _ _ => false) ((ev (pg (5) (29)) 100000).s 39 sg8 ct5_7 (cutM [true])) = true := by decide +kernel
theorem run5 : SegsP (pg (5) (29)) 100000 39 [true] sg st0 m0 := .cons ct5_0 run5_0 (.cons ct5_1 run5_1 (.cons ct5_2 run5_2 (.cons ct5_3 run5_3 (.cons ct5_4 run5_4 (.cons ct5_5 run5_5 (.cons ct5_6 run5_6 (.cons ct5_7 run5_7 (.last run5_8))))))))
theorem piece {x : Int} (h0 : 0 ≤ x) (h1 : x < 30) : ∃ lo hi : Int, lo ≤ x ∧ x ≤ hi ∧ SegsP (pg lo hi) 100000 39 [true] sg st0 m0 := by
  by_cases c0 : x ≤ 0
  · exact ⟨_, _, (by omega : (0 : Int) ≤ x), (by omega : x ≤ (0 : Int)), run0⟩
  by_cases c1 : x ≤ 1
  · exact ⟨_, _, (by omega : (1 : Int) ≤ x), (by omega : x ≤ (1 : Int)), run1⟩
  by_cases c2 : x ≤ 2
  · exact ⟨_, _, (by omega : (2 : Int) ≤ x), (by omega : x ≤ (2 : Int)), run2⟩
  by_cases c3 : x ≤ 3
  · exact ⟨_, _, (by omega : (3 : Int) ≤ x), (by omega : x ≤ (3 : Int)), run3⟩
  by_cases c4 : x ≤ 4
  · exact ⟨_, _, (by omega : (4 : Int) ≤ x), (by omega : x ≤ (4 : Int)), run4⟩
  exact ⟨_, _, (by omega : (5 : Int) ≤ x), (by omega : x ≤ (29 : Int)), run5⟩
theorem one_draw : oneDr df 31 = true := by decide +kernel
def spU (K : PySem.W.Frag) : Sp := fun vs H Q E => ∃ (C : Cn) (lo hi : Int), C.x = xOf C.ns 4377 30 ∧ Rng (pg lo hi) C ∧ C.tb = tbOf K lf ∧ C.ga = gaOf K (atsL ds md) ∧ C.cl = clOf K ci.cn ∧ ciOf C = ci ∧ C.ec = ecOf K ecl ∧ C.ef = efOf ecl ∧ SegsP (pg lo hi) 100000 39 [true] sg st0 m0 ∧ orFrz (spCut K C) vs H Q E
theorem fam {w : World} {K : PySem.W.Frag} {h base : Heap} {mg : Str → Option Value} {fd : FuncData} (KX : K.In h) (G : h.Ns mainGlobals mg) (c : SaysP ds gnv ci md K) (FU : L2.Fun K "law" "law" (ds.getD 34 noSt) (He.ga K "law") fd) {C : Cn} {lo hi : Int} (hx : C.x = xOf C.ns 4377 30) (Rg : Rng (pg lo hi) C)
    (hTB : ∀ x ∈ lf, LamX.TabB base mg (He.cT K x).1 (He.cT K x).2) (hC : C.tb = tbOf K lf) (hga : C.ga = gaOf K (atsL ds md)) (hcl : C.cl = clOf K ci.cn) (hci : ciOf C = ci) (hec : C.ec = ecOf K ecl) (hef : C.ef = efOf ecl) (hecB : ecl.all (ecB K R.prog) = true) (hwB : wdB K ecl wdd = true) (hnd : (lf.map (tabA K)).Nodup) (hsg : SegsP (pg lo hi) 100000 39 [true] sg st0 m0) : FnOk R.prog w K mg base CX0 42 (He.ga K "law") fd ["_law_script"] (spCut K C) := by
  have D : Df0 C (pg lo hi) (nmL ds) (gnv.map (·.1)) (enOf ecl) wdn R.prog w K mg base := df0_of (l := ecl) (dft := dft) (dfm := dfm) hTB hC hnd KX G c (gv_ok lo hi) Rg hci hcl clb_ok rfl (fun j st hj => by rw [hga]; exact gaOf_ok hj) ar_ok hec hef hecB (fun x hx => by
    have hx : some ("_law_word" : Str) = some x := hx
    cases hx
    exact wo_of (j := 33) (st := ds.getD 33 noSt) (N := Ns.getD 33 []) (D := wdd) KX G c hec hef hecB hwB rfl rfl b33 rfl kw_sc kw_lo rfl kw_ok) chk_ok chm_ok binds bindsM fun j st hj hd f' fd' FU => by
    obtain rfl := oneDr_ok one_draw hd
    have es : st = sT := (Option.some.inj (hj.symm.trans (show ds[31]? = some sT from rfl)))
    subst es
    exact (taken (C := C) hx Rg FU ((bl_of KX G c (gv_ok lo hi) Rg (kl_of KX G c hci hcl clb_ok)).blt "int" (by decide)) ((bl_of KX G c (gv_ok lo hi) Rg (kl_of KX G c hci hcl clb_ok)).blt "len" (by decide))).mono (by decide)
  obtain ⟨N, d, e1, e2, e3⟩ := chkAll_at chk_ok 34 (ds.getD 34 noSt) rfl
  have hfb : d = .fn f34 := Option.some.inj (e2.symm.trans (show dft[34]? = some (.fn f34) from rfl))
  subst hfb
  show FnOk _ _ _ _ _ _ (39 + 3) _ _ _ _
  exact by
    unfold chk1 at e3
    simp only [Bool.and_eq_true] at e3
    obtain ⟨⟨k1, k2⟩, k3⟩ := e3
    have hn : dName (ds.getD 34 noSt) = ("law" : Str) := rfl
    rw [hn, ← hci] at k3
    exact fo_lawC (d := 39) (n := 99999) D FU (scB_ok k1) (Nat.eq_of_beq_eq_true k2) (lmF_of (x := ("law", none)) hTB hC hnd FU) rfl k3 rfl hsg
theorem facts {w : World} {K : PySem.W.Frag} {h : Heap} {mg : Str → Option Value} {f : Addr} (KX : K.In h) (G : h.Ns mainGlobals mg) (hfa : mg ("law" : Str) = some (.ref f)) (cx : He.SaysX fa fn [] tf (exB2 lf R.prog ecl wdo) w h K) : LamX.LawAtS PySem.Challenge.rw_joinworks_k64_known_walls_and_rising_joi w K CX0 42 63 "_law_script" mg f h := by
  have c := cx.t.d
  have eds : ds[34]? = some (ds.getD 34 noSt) := rfl
  have en : dName (ds.getD 34 noSt) = ("law" : Str) := rfl
  obtain ⟨fd, F⟩ := def_top c eds
  have hg := glo_top KX G c eds
  rw [en] at hg
  have e := hfa.symm.trans hg
  cases e
  have b := FunD.bindsA (ps := ["_law_script"]) F (b34 _)
  have FU0 := fun_of F
  rw [en] at FU0
  have FU : L2.Fun K "law" "law" (ds.getD 34 noSt) (He.ga K "law") fd := FU0
  have mm : exB1 lf K = true ∧ ecl.all (ecB K R.prog) = true ∧ (match wdo with
    | some D => wdB K ecl D
    | none => true) = true := by
    have m := cx.more
    unfold exB2 at m
    rw [Bool.and_eq_true, Bool.and_eq_true] at m
    exact ⟨m.1, m.2.1, m.2.2⟩
  have hnd : (lf.map (tabA K)).Nodup := of_decide_eq_true mm.1
  have hecB := mm.2.1
  have hwB : wdB K ecl wdd = true := mm.2.2
  refine lawAt (lf := lf) (sp := spU K) KX cx (fun s v => b s [v] rfl) (fun H a ns hT hS => ?_) fun base hK hN hTB => ⟨fun vs H Q E ⟨C, lo, hi, hx, R, hC, hga, hcl, hci, hec, hef, hsg, h⟩ => (fn_frz (fam (w := w) KX G c FU hx R hTB hC hga hcl hci hec hef hecB hwB hnd hsg)).len vs H Q E h, fun A outer s H args us vs Q E hr e0 hb r ⟨C, lo, hi, hx, R, hC, hga, hcl, hci, hec, hef, hsg, h⟩ => (fn_frz (fam KX G c FU hx R hTB hC hga hcl hci hec hef hecB hwB hnd hsg)).run A outer s H args us vs Q E hr e0 hb r h⟩
  obtain ⟨x0, x1⟩ := xOf_range (ns := ns) (s := 4377) (many := 30) (by decide)
  obtain ⟨lo, hi, l1, l2, hrun⟩ := piece x0 x1
  refine ⟨⟨xOf ns 4377 30, gaOf K (atsL ds md), a, ns, clOf K ci.cn, fun _ => ⟨#[]⟩, tbOf K lf, ecOf K ecl, efOf ecl, ci.cn, ci.fl, ci.mn⟩, lo, hi, rfl, ⟨l1, l2⟩, rfl, rfl, rfl, rfl, rfl, rfl, hrun, ?_⟩
  have t0 := tabs_start hT
  rcases scr_start (C := ⟨xOf ns 4377 30, gaOf K (atsL ds md), a, ns, clOf K ci.cn, fun _ => ⟨#[]⟩, tbOf K lf, ecOf K ecl, efOf ecl, ci.cn, ci.fl, ci.mn⟩) hS rfl rfl with so | hl
  · exact .inl ⟨rfl, so, t0, fun _ => rfl⟩
  · exact .inr ⟨a, _, hl, fun o => ⟨rfl, .inl ⟨o, upd_same⟩, tabs_frz hl t0, fun _ => rfl⟩⟩
end
end K64
open PySem PySem.W PySem.Calls PyProof.Rows
set_option maxHeartbeats 0 in
theorem PySem.Challenge.cw_joinworks_k64_known_walls_and_rising_joi_holds : PySem.Challenge.rw_joinworks_k64_known_walls_and_rising_joi.Holds := by
  w_on; o_law
  refine HandSHeadRun.head_any (r := OpenLaw.row PySem.Challenge.rw_joinworks_k64_known_walls_and_rising_joi) (q := view (OpenLaw.row PySem.Challenge.rw_joinworks_k64_known_walls_and_rising_joi).prog [52]) (H := K64.hk) (ob := K64.ob) (M := 3580) (loose := K64.loose) (d := HandSHeadRun.topDef (OpenLaw.row PySem.Challenge.rw_joinworks_k64_known_walls_and_rising_joi).prog 52) (kwd := []) K64.ob_eq
    (by kernel_rfl) (fun s => by kernel_rfl) K64.run (by kernel_rfl) (by kernel_rfl) (by kernel_rfl) (by rfl) (by first | assumption | decide +kernel) (by decide +kernel) ⟨rfl, rfl, rfl, rfl, rfl, by decide +kernel⟩ ?hw ?hc
  case hw => w_witness2
  case hc =>
    refine LamX.walk_ofTsE (l := PySem.Challenge.rw_joinworks_k64_known_walls_and_rising_joi) (n := 63) (k := 42) (x := "_law_script") (CX := fun _ => L2.CX0) rfl (by decide) (by kernel_rfl) ⟨rfl, by decide, by decide⟩ ?F (fun _ _ _ _ _ z => z)
    intro w mg fa h Y G hmg0
    obtain ⟨K, KX, c⟩ := Y
    have hmg : mg ("law" : PySem.Str) = some (.ref fa) := by
      have e : (HandSHeadRun.topDef (OpenLaw.row PySem.Challenge.rw_joinworks_k64_known_walls_and_rising_joi).prog 52).name = ("law" : PySem.Str) := by kernel_rfl
      rw [← e]
      exact hmg0
    exact ⟨K, KX, K64.facts KX G hmg c⟩
