import PyProof.Rows.All
import KE.LtData
import KE.DataEq
import KE.DataAny
import KE.DataMinMax
import KE.DataFind
import KE.SortData
import HandS.ForMost
import HandS.Exc
import HandS.TryOnly
import HandS.TryMany
import HandS.WordsExc
import HandS.IsInst
import HandS.Conv
import HandS.Walk
import HandS.Zip
import HandS.Style
import HandS.CallSlots
import HandS.TupAny
import HandS.TupMul
import HandS.RaiseMore
import HandS.Wide
import KE.KTupSum
import HandS.Deep
import HandS.Flow
import PyProof.EnumMake
import PyProof.Draws
import HandS.Zip0
import KE.KDictZip
import KE.KItemsList
import HandS.ListItems
import HandS.Defaults
import HandS.Dict
import HandS.Text
import HandS.TupSets
import HandS.SetFor
import HandS.Strs
import HandS.Star
import HandS.HeadHook2
import HandS.Ends
import HandS.HeadEnd
import HandS.HeadHook1
import HandS.MakeKw
import HandS.MakeKwOnly
import HandS.Head0
import HandS.Head1
import HandS.Head2
import KE.KStateDown
import PySem.Challenge.RW_heelpence_k18_is_stuck
set_option Elab.async false
set_option linter.all false
set_option autoImplicit false
set_option maxRecDepth 100000
set_option maxHeartbeats 0
/-! A small language and its evaluator (plain Lean). -/
namespace MI
open PySem
abbrev D := PyData
/-- what a name holds: shared data; an own list, an own dict (p: pinned: it came in by the call and goes out with it) -/
inductive M where
  | sh (d : D)
  | ol (p : Bool) (xs : List D)
  | od (p : Bool) (kvs : List (D × D))
  | ob (C : Nat) (fs : List (Nat × D))
  | sc (ns : List Int)   -- the script
deriving Inhabited
/-- what an expression gives -/
inductive R where
  | val (d : D)
  | new (xs : List D)
  | newd (kvs : List (D × D))
  | own (i : Nat)
  | ob (C : Nat) (fs : List (Nat × D))
  | sc (ns : List Int)
deriving Inhabited
abbrev Env := List (Option M)
/-- an exception: its class, its fields -/
structure Xn where
  cls : Nat
  fs : List (Nat × D)
deriving Inhabited
inductive Out (α : Type) where
  | ok (a : α) (ρ : Env)
  | ex (x : Xn) (ρ : Env)
  | no
deriving Inhabited
def Out.bind {α β : Type} (o : Out α) (k : α → Env → Out β) : Out β := match o with
  | .ok a ρ => k a ρ
  | .ex x ρ => .ex x ρ
  | .no => .no
def Out.lift {α : Type} (o : Option α) (ρ : Env) : Out α := match o with
  | some a => .ok a ρ
  | none => .no
inductive Op where
  | add | sub | mul | fdiv | mod | pow | band | bor | shl | shr
deriving DecidableEq, Inhabited
inductive Cp where
  | eq | ne | lt | le | gt | ge | isin | notin | isN | notN
deriving DecidableEq, Inhabited
/-- built-ins called with evaluated arguments -/
inductive Bi where
  | len | abs | int | bool | str | repr | list | tuple | sum | max | min | any | all | sorted
  | sortedSet | lenSet
deriving DecidableEq, Inhabited
/-- classes that isinstance asks -/
inductive Ty where
  | int | bool | str | list | tuple | dict
deriving DecidableEq, Inhabited
/-- methods that read -/
inductive Me where
  | index | count | get
deriving DecidableEq, Inhabited
/-- methods that change an own list -/
inductive Mu where
  | append | extend | pop | popAt | insert | remove | reverse
deriving DecidableEq, Inhabited
inductive Tg where
  | name (i : Nat)
  | tup (ts : List Tg)
deriving Inhabited
/-- where a parameter's value comes from: the k-th evaluated argument, a default -/
inductive Arg where
  | e (k : Nat)
  | d (x : D)
deriving Inhabited
mutual
inductive Ex where
  | var (i : Nat)
  | int (i : Int)
  | str (s : String)
  | bl (b : Bool)
  | non
  | tup (es : List Ex)
  | lst (es : List Ex)
  | dct (kvs : List (Ex × Ex))
  | neg (a : Ex)
  | not (a : Ex)
  | bin (o : Op) (a b : Ex)
  | cmp (o : Cp) (a b : Ex)
  | chain (o p : Cp) (a b c : Ex)
  | and (a b : Ex)
  | or (a b : Ex)
  | ite (c a b : Ex)
  | idx (a i : Ex)
  | sl (a : Ex) (lo hi : Option Ex)
  | rev (a : Ex)
  | isa (a : Ex) (ts : List Ty) (many : Bool)
  | bi1 (f : Bi) (a : Ex)
  | bi2 (f : Bi) (a b : Ex)
  | me (m : Me) (a : Ex) (es : List Ex)
  | mu (m : Mu) (i : Nat) (es : List Ex)
  | call (f : Nat) (es : List Ex) (refs : List Bool) (src : List Arg)
  | callS (f : Nat) (es : List Ex) (st : Option Ex) (refs : List Bool) (m : Nat)   -- f(e, .., *st): m parameters, then *rest
  | comp (elt : Ex) (tg : Tg) (it : It) (cond : Option Ex)
  | glo (x : String) (d : D)   -- a constant of the module
  | lit (it : It) (tup : Bool) -- list(..), tuple(..) of something walked
  | sset (e : Ex)              -- sorted(set(e))
  | join (sep : String) (a : Ex)
  | lzip (a b : Ex)   -- list(zip(a, b)), tuples
  | inr (neg : Bool) (a : Ex) (es : List Ex)   -- a in range(..)
  | bad   -- anything: nothing is said
inductive It where
  | seq (e : Ex)
  | rng (es : List Ex)
  | enum (e : Ex)
  | zip (a b : Ex)
end
instance : Inhabited Ex := ⟨.non⟩
instance : Inhabited It := ⟨.seq .non⟩
inductive Sx where
  | asg (i : Nat) (e : Ex)
  | unp (is : List Nat) (e : Ex)
  | par (i j : Nat) (a b : Ex)   -- a, b = e, f
  | setI (i : Nat) (ix e : Ex)
  | augI (o : Op) (i : Nat) (ix e : Ex)
  | aug (o : Op) (i : Nat) (e : Ex)
  | expr (e : Ex)
  | ret (e : Ex)
  | retN
  | ite (c : Ex) (a b : List Sx)
  | for (tg : Tg) (it : It) (b : List Sx)
  | while (c : Ex) (b : List Sx)
  | pass
  | brk
  | cont
  | raise (C : Nat) (es : List Ex)
deriving Inhabited
/-! ### what the operations give -/
abbrev Lim : Nat := 16777216
def gd {α : Type} (b : Bool) (a : α) : Option α := if b then some a else none
def opAdd : D → D → Option R
  | .int a, .int b => some (.val (.int (a + b)))
  | .str a, .str b => gd (decide (a.length + b.length ≤ Lim)) (.val (.str (a ++ b)))
  | .list a, .list b => gd (decide (a.length + b.length ≤ Lim)) (.new (a ++ b))
  | .tuple a, .tuple b => gd (decide (a.length + b.length ≤ Lim)) (.val (.tuple (a ++ b)))
  | _, _ => none
def opMul : D → D → Option R
  | .int a, .int b => gd (decide (a.natAbs < 2 ^ 64) || decide (b.natAbs < 2 ^ 64)) (.val (.int (a * b)))
  | .list a, .int b => gd (decide (b.natAbs < 2 ^ 62) && decide (a.length * b.toNat ≤ Lim)) (.new (List.replicate b.toNat a).flatten)
  | .tuple a, .int b => if a.isEmpty ∨ b = 1 then gd (decide (b.natAbs < 2 ^ 62)) (.val (.tuple a)) else if b = 0 then some (.val (.tuple [])) else gd (decide (2 ≤ b) && decide (b ≤ 1000) && decide (a.length ≤ 1000)) (.val (.tuple (List.replicate b.toNat a).flatten))
  | _, _ => none
def opInt (f : Int → Int → Option Int) : D → D → Option R
  | .int a, .int b => (f a b).map fun c => .val (.int c)
  | _, _ => none
def iSub (a b : Int) : Option Int := some (a - b)
def iFdiv (a b : Int) : Option Int := gd (decide (0 < b) && decide (b < 1000000000000000000000000000000000000000000000000000000000000)) (a / b)
def iMod (a b : Int) : Option Int := gd (decide (0 < b)) (a % b)
def iPow (a b : Int) : Option Int := gd (decide (0 ≤ b) && decide (b ≤ 1000000) && decide (a.natAbs < 2 ^ 64)) (a ^ b.toNat)
def opBin : Op → D → D → Option R
  | .add => opAdd
  | .sub => opInt iSub
  | .mul => opMul
  | .fdiv => opInt iFdiv
  | .mod => opInt iMod
  | .pow => opInt iPow
  | _ => fun _ _ => none
/-- data that == and in may be asked of -/
def okEq (d : D) : Bool := d.plain && decide (d.depth ≤ 64)
def lensDiffer : D → D → Bool
  | .list xs, .list ys => xs.length != ys.length
  | _, _ => false
def opEq (a b : D) : Option Bool := if lensDiffer a b then some false else gd (okEq a && okEq b) (PyData.eqv a b)
def isNone : D → Bool
  | .none => true
  | _ => false
/-- a is b: of None, of bools -/
def isD (a b : D) : Option Bool := match b with
  | .none => some (isNone a)
  | .bool y => (match a with
    | .bool x => some (x == y)
    | _ => none)
  | _ => none
def okLt (a b : D) : Bool := a.plain && b.plain && W.alike a b && decide (a.depth ≤ 64) && !isNone a
def opLt : D → D → Option Bool
  | .int a, .int b => some (decide (a < b))
  | a, b => gd (okLt a b) (W.dataLt a b)
def opLe : D → D → Option Bool
  | .int a, .int b => some (decide (a ≤ b))
  | a, b => gd (okLt a b) (!W.dataLt b a)
def opGt : D → D → Option Bool
  | .int a, .int b => some (decide (b < a))
  | _, _ => none
def opGe : D → D → Option Bool
  | .int a, .int b => some (decide (b ≤ a))
  | _, _ => none
def seqOf : D → Option (List D)
  | .list xs => some xs
  | .tuple xs => some xs
  | _ => none
def memD (a : D) (xs : List D) : Bool := xs.any fun z => PyData.eqv z a
def opIn (a c : D) : Option Bool := (seqOf c).bind fun xs => gd (okEq a && PyData.plainAll xs) (memD a xs)
def opCmp : Cp → D → D → Option Bool
  | .eq, a, b => opEq a b
  | .ne, a, b => (opEq a b).map not
  | .lt, a, b => opLt a b
  | .le, a, b => opLe a b
  | .gt, a, b => opGt a b
  | .ge, a, b => opGe a b
  | .isin, a, b => opIn a b
  | .notin, a, b => (opIn a b).map not
  | .isN, a, b => isD a b
  | .notN, a, b => (isD a b).map not
def ixOf (n : Nat) (i : Int) : Option Nat := if 0 ≤ i then (if i < n then some i.toNat else none) else if -(n : Int) ≤ i then some (i + n).toNat else none
def atD (xs : List D) (i : Int) : Option D := (ixOf xs.length i).bind fun j => xs[j]?
def opIdx : D → D → Option R
  | .list xs, .int i => (atD xs i).map .val
  | .tuple xs, .int i => (atD xs i).map .val
  | _, _ => none
def slIx (n d : Nat) : Option Int → Nat
  | none => d
  | some v => if v < 0 then (v + (n : Int)).toNat else min v.toNat n
def cutL {α : Type} (xs : List α) (lo hi : Option Int) : List α :=
  (xs.drop (slIx xs.length 0 lo)).take (slIx xs.length xs.length hi - slIx xs.length 0 lo)
def partOf : D → Option (Option Int)
  | .none => some none
  | .int i => some (some i)
  | _ => none
def opSl : D → Option Int → Option Int → Option R
  | .list xs, lo, hi => some (.new (cutL xs lo hi))
  | .tuple xs, lo, hi => some (.val (.tuple (cutL xs lo hi)))
  | _, _, _ => none
def opRev : D → Option R
  | .list xs => some (.new xs.reverse)
  | .tuple xs => some (.val (.tuple xs.reverse))
  | _ => none
def isTy : Ty → D → Bool
  | .int, .int _ => true
  | .int, .bool _ => true
  | .bool, .bool _ => true
  | .str, .str _ => true
  | .list, .list _ => true
  | .tuple, .tuple _ => true
  | .dict, .dict _ => true
  | _, _ => false
def truth : D → Option Bool
  | .none => some false
  | .bool b => some b
  | .int i => some (i != 0)
  | .str s => gd (decide (s.length ≤ Lim)) (s.length != 0)
  | .list xs => some (!xs.isEmpty)
  | .tuple xs => some (!xs.isEmpty)
  | .dict kvs => some (!kvs.isEmpty)
def intsOf : List D → Option (List Int)
  | [] => some []
  | .int i :: r => (intsOf r).map (i :: ·)
  | _ :: _ => none
def boolsOf : List D → Option (List Bool)
  | [] => some []
  | .bool i :: r => (boolsOf r).map (i :: ·)
  | _ :: _ => none
def allAlike (xs : List D) : Bool := xs.all fun x => !isNone x && xs.all fun y => W.alike x y
/-- sorted by <; equal ones stay in their order -/
def sortD (xs : List D) : List D := xs.mergeSort (W.dataLe false id)
def lenD : D → Option R
  | .list xs => some (.val (.int xs.length))
  | .tuple xs => some (.val (.int xs.length))
  | .str s => gd (decide (s.length ≤ Lim)) (.val (.int s.length))
  | .dict kvs => some (.val (.int kvs.length))
  | _ => none
def absD : D → Option R
  | .int i => some (.val (.int (if i < 0 then -i else i)))
  | _ => none
def intD : D → Option R
  | .int i => some (.val (.int i))
  | .bool b => some (.val (.int (if b then 1 else 0)))
  | _ => none
def boolD : D → Option R
  | .int i => some (.val (.bool (i != 0)))
  | .bool b => some (.val (.bool b))
  | _ => none
def strD : D → Option R
  | .int i => gd (decide (i.natAbs.log2 < 1920)) (.val (.str (toString i)))
  | _ => none
mutual
/-- each dict empty -/
def noList : D → Bool
  | .list xs => noLists xs
  | .tuple xs => noLists xs
  | .dict kvs => kvs.isEmpty
  | _ => true
def noLists : List D → Bool
  | [] => true
  | x :: xs => noList x && noLists xs
end
def boxed : D → Bool
  | .list _ => true
  | .tuple _ => true
  | _ => false
def okRepr (d : D) : Bool := d.showable && decide (d.shown.length ≤ Lim) && decide (d.depth ≤ 64) && (d.plain || noList d)
def reprD (d : D) : Option R := gd (okRepr d) (.val (.str d.shown))
def listD (d : D) : Option R := (seqOf d).map .new
def tupleD (d : D) : Option R := (seqOf d).map fun xs => .val (.tuple xs)
def sumD (d : D) : Option R := (seqOf d).bind fun xs => (intsOf xs).map fun ns => .val (.int ns.sum)
def anyD : D → Option R
  | .list xs => (boolsOf xs).map fun bs => .val (.bool (bs.any id))
  | _ => none
def allD : D → Option R
  | .list xs => (boolsOf xs).map fun bs => .val (.bool (bs.all id))
  | _ => none
def okOrd (xs : List D) : Bool := allAlike xs && PyData.plainAll xs && decide (PyData.depthAll xs ≤ 64)
def maxD (d : D) : Option R := (seqOf d).bind fun
  | [] => none
  | x :: r => gd (okOrd (x :: r)) (.val (W.maxD x r))
def minD (d : D) : Option R := (seqOf d).bind fun
  | [] => none
  | x :: r => gd (okOrd (x :: r)) (.val (W.minD x r))
def max2 : D → D → Option R
  | .int i, .int j => some (.val (.int (if j > i then j else i)))
  | _, _ => none
def min2 : D → D → Option R
  | .int i, .int j => some (.val (.int (if j < i then j else i)))
  | _, _ => none
/-- tuples with an item at least, or none a tuple -/
def okSort (xs : List D) : Bool := (xs.all fun | .tuple (_ :: _) => true | _ => false) || (xs.all fun | .tuple _ => false | .none => false | _ => true)
def sortedD : D → Option R
  | .list xs => gd (okOrd xs && okSort xs && decide (xs.length ≤ Lim)) (.new (sortD xs))
  | _ => none
/-- the first of each -/
def nubI : List Int → List Int
  | [] => []
  | x :: xs => x :: (nubI xs).filter (· != x)
def insI (x : Int) : List Int → List Int
  | [] => [x]
  | y :: ys => if x < y then x :: y :: ys else if x = y then y :: ys else y :: insI x ys
def ssetI (ns : List Int) : List Int := ns.foldr insI []
def pairsOf : List D → Option (List (Int × Int))
  | [] => some []
  | .tuple [.int x, .int y] :: r => (pairsOf r).map ((x, y) :: ·)
  | _ :: _ => none
def okPair (p : Int × Int) : Bool := decide (0 ≤ p.1) && decide (p.1 < 64) && decide (0 ≤ p.2) && decide (p.2 < 64)
def codeP (p : Int × Int) : Int := p.1 * 64 + p.2
def pairD (c : Int) : D := .tuple [.int (c / 64), .int (c % 64)]
def pairsR (ps : List (Int × Int)) : Option R := gd (decide (ps.length < 64) && ps.all okPair) (.new ((ssetI (ps.map codeP)).map pairD))
def intsR (ns : List Int) : Option R := gd (decide (ns.length < 64)) (.new ((ssetI ns).map .int))
def ssetL (xs : List D) : Option R := match pairsOf xs with
  | some ps => pairsR ps
  | none => (intsOf xs).bind intsR
/-- sorted(set(xs)), xs of pairs, of ints -/
def ssetD : D → Option R
  | .list xs => ssetL xs
  | .tuple xs => ssetL xs
  | _ => none
def strsOf : List D → Option (List Str)
  | [] => some []
  | .str x :: r => (strsOf r).map (x :: ·)
  | _ :: _ => none
def joinD (s : Str) (d : D) : Option R := (seqOf d).bind fun xs => (strsOf xs).bind fun ys => gd (decide ((ys.map (·.length)).sum + ys.length * s.length ≤ Lim)) (.val (.str (Str.join s ys)))
def inrD (neg : Bool) : D → List D → Option R
  | .int i, [.int n] => some (.val (.bool (neg != (decide (0 ≤ i ∧ i < n)))))
  | .int i, [.int a, .int b] => some (.val (.bool (neg != (decide (a ≤ i ∧ i < b)))))
  | _, _ => none
def opB1 : Bi → D → Option R
  | .len => lenD
  | .abs => absD
  | .int => intD
  | .bool => boolD
  | .str => strD
  | .repr => reprD
  | .list => listD
  | .tuple => tupleD
  | .sum => sumD
  | .any => anyD
  | .all => allD
  | .max => maxD
  | .min => minD
  | .sorted => sortedD
  | _ => fun _ => none
def opB2 : Bi → D → D → Option R
  | .max => max2
  | .min => min2
  | _ => fun _ _ => none
def placeD (d : D) (xs : List D) : Option Nat := xs.findIdx? fun y => PyData.eqv y d
def indexD (c a : D) : Option R := (seqOf c).bind fun xs => if okEq a && PyData.plainAll xs then (placeD a xs).map fun j => .val (.int j) else none
def countD (c a : D) : Option R := (seqOf c).bind fun xs => gd (okEq a && PyData.plainAll xs) (.val (.int (xs.countP fun y => PyData.eqv y a)))
def opMe : Me → D → List D → Option R
  | .index, c, [a] => indexD c a
  | .count, c, [a] => countD c a
  | _, _, _ => none
/-- what a changing method gives back, and the list behind it -/
def opMu : Mu → List D → List D → Option (D × List D)
  | .append, xs, [d] => gd (decide (xs.length < Lim)) (.none, xs ++ [d])
  | .extend, xs, [.list ys] => gd (decide (xs.length + ys.length ≤ Lim)) (.none, xs ++ ys)
  | .pop, xs, [] => xs.getLast?.map fun y => (y, xs.dropLast)
  | .popAt, xs, [.int i] => gd (decide (i.natAbs < 2 ^ 62)) () |>.bind fun _ => (ixOf xs.length i).bind fun k => (xs[k]?).map fun y => (y, xs.eraseIdx k)
  | .reverse, xs, [] => some (.none, xs.reverse)
  | _, _, _ => none
end MI
namespace MI
open PySem
inductive FOut where
  | ret (r : M) (fin : List M)
  | ex (x : Xn) (fin : List M)
  | no
deriving Inhabited
/-- what a call gives back goes on; fuel of whiles -/
structure Cxt where
  φ : Nat → List M → FOut
  fuel : Nat
def Env.get (ρ : Env) (i : Nat) : Option M := (ρ[i]?).join
def M.cont : M → Option D
  | .sh d => some d
  | .ol _ xs => some (.list xs)
  | .od _ kvs => some (.dict kvs)
  | .ob _ _ => none
  | .sc _ => none
def M.isOwn : M → Bool
  | .ol _ _ => true
  | .od _ _ => true
  | _ => false
def M.pinned : M → Bool
  | .ol p _ => p
  | .od p _ => p
  | _ => false
def R.hold : R → R
  | .new xs => .val (.list xs)
  | .newd kvs => .val (.dict kvs)
  | r => r
def R.cont (ρ : Env) : R → Option D
  | .val d => some d
  | .new xs => some (.list xs)
  | .newd kvs => some (.dict kvs)
  | .own i => (ρ.get i).bind M.cont
  | .ob _ _ => none
  | .sc _ => none
/-- what may be cut: the script, too -/
def R.contS (ρ : Env) : R → Option D
  | .sc ns => some (.list (ns.map .int))
  | r => r.cont ρ
/-- shared from now on -/
def frz (r : R) (ρ : Env) : Out D := match r with
  | .val d => .ok d ρ
  | .new xs => .ok (.list xs) ρ
  | .newd kvs => .ok (.dict kvs) ρ
  | .own i => match ρ.get i with
    | some (.sh d) => .ok d ρ
    | some (.ol false xs) => .ok (.list xs) (ρ.set i (some (.sh (.list xs))))
    | some (.od false kvs) => .ok (.dict kvs) (ρ.set i (some (.sh (.dict kvs))))
    | _ => .no
  | .ob _ _ => .no
  | .sc _ => .no
def Out.frz (o : Out R) : Out D := o.bind MI.frz
def free (ρ : Env) (i : Nat) : Bool := i < ρ.length && match ρ.get i with
  | some m => !m.pinned
  | none => true
def putR (i : Nat) (r : R) (ρ : Env) : Out Unit := match r with
  | .new xs => if free ρ i then .ok () (ρ.set i (some (.ol false xs))) else .no
  | .newd kvs => if free ρ i then .ok () (ρ.set i (some (.od false kvs))) else .no
  | .ob C fs => if free ρ i then .ok () (ρ.set i (some (.ob C fs))) else .no
  | r => (MI.frz r ρ).bind fun d ρ => if free ρ i then .ok () (ρ.set i (some (.sh d))) else .no
mutual
def Tg.put (tg : Tg) (d : D) (ρ : Env) : Option Env := match tg with
  | .name i => gd (free ρ i) (ρ.set i (some (.sh d)))
  | .tup ts => match d with
    | .tuple ds => Tg.puts ts ds ρ
    | .list ds => Tg.puts ts ds ρ
    | _ => none
def Tg.puts (ts : List Tg) (ds : List D) (ρ : Env) : Option Env := match ts, ds with
  | [], [] => some ρ
  | t :: ts, d :: ds => (Tg.put t d ρ).bind (Tg.puts ts ds)
  | _, _ => none
end
mutual
def Tg.vars : Tg → List Nat
  | .name i => [i]
  | .tup ts => Tg.varss ts
def Tg.varss : List Tg → List Nat
  | [] => []
  | t :: ts => Tg.vars t ++ Tg.varss ts
end
def wipeE (ρ : Env) : List Nat → Env
  | [] => ρ
  | v :: vs => (wipeE ρ vs).set v none
def backE (ρ ρ0 : Env) : List Nat → Env
  | [] => ρ
  | v :: vs => (backE ρ ρ0 vs).set v (ρ0.get v)
def rngD (lo : Int) (n : Nat) (c : Int) : List D := (List.range n).map fun (k : Nat) => PyData.int (lo + (k : Int) * c)
def rngN (a b c : Int) : Nat := if 0 < c then (if a < b then ((b - a - 1) / c + 1).toNat else 0) else (if b < a then ((a - b - 1) / (-c) + 1).toNat else 0)
def small62 (i : Int) : Bool := decide (i.natAbs < 2 ^ 62)
def rngOf : List D → Option (List D)
  | [.int j] => gd (small62 j) (rngD 0 j.toNat 1)
  | [.int i, .int j] => gd (small62 i && small62 j) (rngD i (j - i).toNat 1)
  | [.int i, .int j, .int c] => gd (small62 i && small62 j && decide (c ≠ 0) && decide (c.natAbs < 1073741824)) (rngD i (rngN i j c) c)
  | _ => none
def enumD (i : Nat) : List D → List D
  | [] => []
  | d :: ds => .tuple [.int i, d] :: enumD (i + 1) ds
def zipD : List D → List D → List D
  | a :: as, b :: bs => .tuple [a, b] :: zipD as bs
  | _, _ => []
def lzipD : D → D → Option R
  | .tuple xs, .tuple ys => some (.new (zipD xs ys))
  | _, _ => none
def lstOf : D → Option (List D)
  | .list xs => some xs
  | _ => none
def zipOf : D → D → Option (List D)
  | .list xs, .list ys => some (zipD xs ys)
  | .tuple xs, .tuple ys => some (zipD xs ys)
  | _, _ => none
def compL (f : D → Env → Out (Option D)) : List D → List D → Env → Out (List D)
  | [], acc, ρ => .ok acc ρ
  | d :: ds, acc, ρ => match f d ρ with
    | .ok (some x) ρ1 => if acc.length < Lim then compL f ds (acc ++ [x]) ρ1 else .no
    | .ok none ρ1 => compL f ds acc ρ1
    | _ => .no
inductive Fl where
  | next
  | ret (m : M)
  | brk
  | cont
deriving Inhabited
def forL (f : D → Env → Out Fl) : List D → Env → Out Fl
  | [], ρ => .ok .next ρ
  | d :: ds, ρ => match f d ρ with
    | .ok .next ρ1 => forL f ds ρ1
    | .ok .cont ρ1 => forL f ds ρ1
    | .ok .brk ρ1 => .ok .next ρ1
    | o => o
def whileL (c : Env → Out Bool) (b : Env → Out Fl) : Nat → Env → Out Fl
  | 0, _ => .no
  | n + 1, ρ => match c ρ with
    | .ok true ρ1 => (match b ρ1 with
      | .ok .next ρ2 => whileL c b n ρ2
      | .ok .cont ρ2 => whileL c b n ρ2
      | .ok .brk ρ2 => .ok .next ρ2
      | o => o)
    | .ok false ρ1 => .ok .next ρ1
    | .ex x ρ1 => .ex x ρ1
    | .no => .no
/-- an argument as the callee gets it -/
def R.arg (ρ : Env) : R → Option M
  | .val d => some (.sh d)
  | .own i => (ρ.get i).bind fun
    | .sh d => some (.sh d)
    | .ol _ xs => some (.ol true xs)
    | .od _ kvs => some (.od true kvs)
    | .ob C fs => some (.ob C fs)
    | .sc ns => some (.sc ns)
  | .ob C fs => some (.ob C fs)
  | .sc ns => some (.sc ns)
  | _ => none
def argsOf (ρ : Env) (rs : List R) : List Arg → Option (List M)
  | [] => some []
  | .e k :: as => (rs[k]?).bind fun r => (r.arg ρ).bind fun m => (argsOf ρ rs as).map (m :: ·)
  | .d x :: as => (argsOf ρ rs as).map (.sh x :: ·)
/-- the own names among the arguments, in the parameters' order -/
def ownsOf (ρ : Env) (rs : List R) : List Arg → List (Option Nat)
  | [] => []
  | .e k :: as => (match rs[k]? with
    | some (.own i) => if ((ρ.get i).map M.isOwn).getD false then some i else none
    | _ => none) :: ownsOf ρ rs as
  | .d _ :: as => none :: ownsOf ρ rs as
def backOf (ρ : Env) : List (Option Nat) → List M → Env
  | some i :: os, m :: fin => backOf (ρ.set i (match ρ.get i, m with
    | some (.ol p _), .ol _ xs => some (.ol p xs)
    | some (.od p _), .od _ kvs => some (.od p kvs)
    | _, _ => none)) os fin
  | none :: os, _ :: fin => backOf ρ os fin
  | _, _ => ρ
def M.res : M → R
  | .sh d => .val d
  | .ol _ xs => .new xs
  | .od _ kvs => .newd kvs
  | .ob C fs => .ob C fs
  | .sc ns => .sc ns
/-- what was lent comes back as what it was -/
def kinds : List M → List M → Bool
  | [], [] => true
  | m :: ms, m' :: fin => (match m, m' with
    | .ol _ _, .ol _ _ => true
    | .ol _ _, _ => false
    | .od _ _, .od _ _ => true
    | .od _ _, _ => false
    | _, _ => true) && kinds ms fin
  | _, _ => false
def srcOk (n : Nat) (src : List Arg) : Bool := decide ((src.filterMap fun | .e k => some k | .d _ => none).Nodup)
def callR (cx : Cxt) (f : Nat) (rs : List R) (src : List Arg) (ρ : Env) : Out R :=
  match argsOf ρ rs src with
  | none => .no
  | some ms =>
    let os := ownsOf ρ rs src
    if (os.filterMap id).Nodup ∧ srcOk rs.length src = true then
      match cx.φ f ms with
      | .ret m fin => if kinds ms fin then .ok m.res (backOf ρ os fin) else .no
      | .ex x fin => if kinds ms fin then .ex x (backOf ρ os fin) else .no
      | .no => .no
    else .no
def valsOf : List R → Option (List D)
  | [] => some []
  | .val d :: rs => (valsOf rs).map (d :: ·)
  | _ :: _ => none
def srcTo (n : Nat) : List Arg := (List.range n).map Arg.e
/-- a call of a def with a star parameter behind m others -/
def starR (cx : Cxt) (f m : Nat) (rs : List R) (ρ : Env) : Out R := match valsOf (rs.drop m) with
  | some ds => if m ≤ rs.length ∧ ds.length ≤ Lim then callR cx f (rs.take m ++ [.val (.tuple ds)]) (srcTo (m + 1)) ρ else .no
  | none => .no
def starD (d : D) (ρ : Env) : Out (List R) := Out.lift ((seqOf d).map fun ds => ds.map .val) ρ
def R.pass (ref : Bool) (r : R) (ρ : Env) : Out R := match r with
  | .ob C fs => .ok (.ob C fs) ρ
  | .sc ns => .ok (.sc ns) ρ
  | r => if ref then .ok r.hold ρ else (MI.frz r ρ).bind fun d ρ => .ok (.val d) ρ
/-- as an item of a display that is taken apart at once -/
def R.still (r : R) (ρ : Env) : Out R := match r with
  | .own i => (MI.frz (.own i) ρ).bind fun d ρ => .ok (.val d) ρ
  | r => .ok r ρ
def someInt (d : D) (ρ : Env) : Out (Option Int) := match d with
  | .int i => .ok (some i) ρ
  | _ => .no
def truthR (r : R) (ρ : Env) : Out Bool := Out.lift ((r.cont ρ).bind truth) ρ
mutual
def evE (cx : Cxt) (e : Ex) (ρ : Env) : Out R := match e with
  | .var i => match ρ.get i with
    | some (.sh d) => .ok (.val d) ρ
    | some (.ol _ _) => .ok (.own i) ρ
    | some (.od _ _) => .ok (.own i) ρ
    | some (.ob C fs) => .ok (.ob C fs) ρ
    | some (.sc ns) => .ok (.sc ns) ρ
    | none => .no
  | .int i => .ok (.val (.int i)) ρ
  | .str s => .ok (.val (.str (Str.ofString s))) ρ
  | .bl b => .ok (.val (.bool b)) ρ
  | .non => .ok (.val .none) ρ
  | .tup es => (evDs cx es ρ).bind fun ds ρ => if ds.length ≤ Lim then .ok (.val (.tuple ds)) ρ else .no
  | .lst es => (evDs cx es ρ).bind fun ds ρ => if ds.length ≤ Lim then .ok (.new ds) ρ else .no
  | .dct kvs => match kvs with
    | [] => .ok (.newd []) ρ
    | kvs => (evKs cx kvs ρ).bind fun ds ρ => .no
  | .neg a => (evE cx a ρ).bind fun r ρ => match r.cont ρ with
    | some (.int i) => .ok (.val (.int (-i))) ρ
    | _ => .no
  | .not a => ((evE cx a ρ).bind truthR).bind fun b ρ => .ok (.val (.bool (!b))) ρ
  | .bin o a b => (evE cx a ρ).bind fun ra ρ => (evE cx b ρ).bind fun rb ρ =>
      Out.lift ((ra.cont ρ).bind fun x => (rb.cont ρ).bind fun y => opBin o x y) ρ
  | .cmp o a b => (evE cx a ρ).bind fun ra ρ => (evE cx b ρ).bind fun rb ρ =>
      Out.lift ((ra.cont ρ).bind fun x => (rb.cont ρ).bind fun y => (opCmp o x y).map fun c => .val (.bool c)) ρ
  | .chain o p a b c => (evE cx a ρ).bind fun ra ρ => (evE cx b ρ).bind fun rb ρ =>
      (Out.lift ((ra.cont ρ).bind fun x => (rb.cont ρ).bind fun y => opCmp o x y) ρ).bind fun k ρ =>
        if k then (evE cx c ρ).bind fun rc ρ => Out.lift ((rb.cont ρ).bind fun y => (rc.cont ρ).bind fun z => (opCmp p y z).map fun c => .val (.bool c)) ρ
        else .ok (.val (.bool false)) ρ
  | .and a b => (evE cx a ρ).bind fun r ρ => match r with
    | .val (.bool true) => evE cx b ρ
    | .val (.bool false) => .ok (.val (.bool false)) ρ
    | _ => .no
  | .or a b => (evE cx a ρ).bind fun r ρ => match r with
    | .val (.bool false) => evE cx b ρ
    | .val (.bool true) => .ok (.val (.bool true)) ρ
    | _ => .no
  | .ite c a b => (evT cx c ρ).bind fun k ρ => if k then evE cx a ρ else evE cx b ρ
  | .idx a i => (evE cx a ρ).bind fun ra ρ => (evE cx i ρ).bind fun ri ρ =>
      Out.lift ((ra.cont ρ).bind fun x => (ri.cont ρ).bind fun y => opIdx x y) ρ
  | .sl a lo hi => (evE cx a ρ).bind fun ra ρ => (match lo with
      | none => Out.ok none ρ
      | some e => ((evE cx e ρ).bind MI.frz).bind someInt).bind fun l ρ => (match hi with
        | none => Out.ok none ρ
        | some e => ((evE cx e ρ).bind MI.frz).bind someInt).bind fun h ρ => Out.lift ((ra.contS ρ).bind fun x => opSl x l h) ρ
  | .rev a => (evE cx a ρ).bind fun ra ρ => Out.lift ((ra.cont ρ).bind opRev) ρ
  | .isa a ts _ => (evE cx a ρ).bind fun ra ρ => Out.lift ((ra.cont ρ).map fun d => .val (.bool (ts.any fun t => isTy t d))) ρ
  | .bi1 f a => (evE cx a ρ).bind fun ra ρ => Out.lift ((ra.cont ρ).bind (opB1 f)) ρ
  | .bi2 f a b => (evE cx a ρ).bind fun ra ρ => (evE cx b ρ).bind fun rb ρ => Out.lift ((ra.cont ρ).bind fun x => (rb.cont ρ).bind fun y => opB2 f x y) ρ
  | .me m a es => (evE cx a ρ).bind fun ra ρ => (evDs cx es ρ).bind fun ds ρ => Out.lift ((ra.cont ρ).bind fun x => opMe m x ds) ρ
  | .mu m i es => match ρ.get i with
    | some (.ol _ _) => (evDs cx es ρ).bind fun ds ρ => (match ρ.get i with
      | some (.ol p xs) => (match opMu m xs ds with
        | some (d, ys) => .ok (.val d) (ρ.set i (some (.ol p ys)))
        | none => .no)
      | _ => .no)
    | _ => .no
  | .call f es refs src => (evRs cx es refs ρ).bind fun rs ρ => callR cx f rs src ρ
  | .callS f es st refs m => (evRs cx es refs ρ).bind fun rs ρ => (match st with
      | none => Out.ok [] ρ
      | some e => ((evE cx e ρ).bind MI.frz).bind starD).bind fun ss ρ => starR cx f m (rs ++ ss) ρ
  | .comp elt tg it cond => (evI cx it ρ).bind fun items ρ1 =>
      if tg.vars.all (fun v => v < ρ1.length && match ρ1.get v with | some m => !m.isOwn | none => true) then
        match compL (fun d ρ => match Tg.put tg d (wipeE ρ tg.vars) with
          | none => .no
          | some ρ => (match cond with
            | none => Out.ok true ρ
            | some c => evT cx c ρ).bind fun k ρ => if k then (((evE cx elt ρ).bind MI.frz).bind fun d ρ => .ok (some d) ρ) else .ok none ρ) items [] ρ1 with
        | .ok acc ρ2 => .ok (.new acc) (backE ρ2 ρ1 tg.vars)
        | _ => .no
      else .no
  | .glo _ d => .ok (.val d) ρ
  | .lit it t => (evI cx it ρ).bind fun items ρ => if items.length ≤ Lim then .ok (if t then .val (.tuple items) else .new items) ρ else .no
  | .sset e => (evE cx e ρ).bind fun r ρ => Out.lift ((r.cont ρ).bind ssetD) ρ
  | .join s a => (evE cx a ρ).bind fun ra ρ => Out.lift ((ra.cont ρ).bind (joinD (Str.ofString s))) ρ
  | .lzip a b => ((evE cx a ρ).bind MI.frz).bind fun x ρ => ((evE cx b ρ).bind MI.frz).bind fun y ρ => Out.lift (lzipD x y) ρ
  | .inr neg a es => (evE cx a ρ).bind fun ra ρ => (evDs cx es ρ).bind fun ds ρ => Out.lift ((ra.cont ρ).bind fun x => inrD neg x ds) ρ
  | .bad => .no
def evT (cx : Cxt) (e : Ex) (ρ : Env) : Out Bool := match e with
  | .and a b => (evT cx a ρ).bind fun k ρ => if k then evT cx b ρ else .ok false ρ
  | .or a b => (evT cx a ρ).bind fun k ρ => if k then .ok true ρ else evT cx b ρ
  | .not a => (evT cx a ρ).bind fun b ρ => .ok (!b) ρ
  | e => (evE cx e ρ).bind truthR
def evDs (cx : Cxt) (es : List Ex) (ρ : Env) : Out (List D) := match es with
  | [] => .ok [] ρ
  | e :: es => ((evE cx e ρ).bind MI.frz).bind fun d ρ => (evDs cx es ρ).bind fun ds ρ => .ok (d :: ds) ρ
def evKs (cx : Cxt) (es : List (Ex × Ex)) (ρ : Env) : Out (List (D × D)) := match es with
  | [] => .ok [] ρ
  | (a, b) :: es => ((evE cx a ρ).bind MI.frz).bind fun k ρ => ((evE cx b ρ).bind MI.frz).bind fun d ρ => (evKs cx es ρ).bind fun ds ρ => .ok ((k, d) :: ds) ρ
def evRs (cx : Cxt) (es : List Ex) (refs : List Bool) (ρ : Env) : Out (List R) := match es with
  | [] => .ok [] ρ
  | e :: es => ((evE cx e ρ).bind (R.pass (refs.headD true))).bind fun r ρ => (evRs cx es refs.tail ρ).bind fun rs ρ => .ok (r :: rs) ρ
def evI (cx : Cxt) (it : It) (ρ : Env) : Out (List D) := match it with
  | .seq e => ((evE cx e ρ).bind MI.frz).bind fun d ρ => Out.lift (seqOf d) ρ
  | .rng es => (evDs cx es ρ).bind fun ds ρ => Out.lift (rngOf ds) ρ
  | .enum e => ((evE cx e ρ).bind MI.frz).bind fun d ρ => Out.lift ((seqOf d).map (enumD 0)) ρ
  | .zip a b => ((evE cx a ρ).bind MI.frz).bind fun x ρ => ((evE cx b ρ).bind MI.frz).bind fun y ρ => Out.lift (zipOf x y) ρ
end
def retM (r : R) (ρ : Env) : Option M := match r with
  | .val d => some (.sh d)
  | .new xs => some (.ol false xs)
  | .newd kvs => some (.od false kvs)
  | .ob C fs => some (.ob C fs)
  | .sc _ => none
  | .own i => match ρ.get i with
    | some (.ol false xs) => some (.ol false xs)
    | some (.od false kvs) => some (.od false kvs)
    | some (.sh d) => some (.sh d)
    | _ => none
def intAt : Option D → Option Int
  | some (.int i) => some i
  | _ => none
def setR (i : Nat) (r : R) (ρ : Env) : Out Unit := if free ρ i then (match r with
  | .new xs => .ok () (ρ.set i (some (.ol false xs)))
  | .newd kvs => .ok () (ρ.set i (some (.od false kvs)))
  | .ob C fs => .ok () (ρ.set i (some (.ob C fs)))
  | .val d => .ok () (ρ.set i (some (.sh d)))
  | .sc _ => .no
  | .own _ => .no) else .no
mutual
def evS (cx : Cxt) (st : Sx) (ρ : Env) : Out Fl := match st with
  | .asg i e => ((evE cx e ρ).bind (putR i)).bind fun _ ρ => .ok .next ρ
  | .unp is e => ((evE cx e ρ).bind MI.frz).bind fun d ρ => Out.lift (Tg.put (.tup (is.map .name)) d ρ) ρ |>.bind fun ρ' _ => .ok .next ρ'
  | .setI i ix e => ((evE cx e ρ).bind MI.frz).bind fun d ρ => match ρ.get i with
    | some (.ol _ _) => (evE cx ix ρ).bind fun r ρ => (match ρ.get i, intAt (r.cont ρ) with
      | some (.ol p xs), some k => (match ixOf xs.length k with
        | some j => .ok .next (ρ.set i (some (.ol p (xs.set j d))))
        | none => .no)
      | _, _ => .no)
    | _ => .no
  | .augI o i ix e => match ρ.get i with
    | some (.ol _ _) => (evE cx ix ρ).bind fun r ρ => (match ρ.get i, intAt (r.cont ρ) with
      | some (.ol _ xs), some k => (match atD xs k with
        | some old => (evE cx e ρ).bind fun rb ρ => (match intAt (some old), intAt (rb.cont ρ), ρ.get i with
          | some a, some b, some (.ol p ys) => (match opBin o (.int a) (.int b), ixOf ys.length k with
            | some (.val z), some j => .ok .next (ρ.set i (some (.ol p (ys.set j z))))
            | _, _ => .no)
          | _, _, _ => .no)
        | none => .no)
      | _, _ => .no)
    | _ => .no
  | .aug o i e => match ρ.get i with
    | some (.sh (.int a)) => (evE cx e ρ).bind fun rb ρ => (match intAt (rb.cont ρ), ρ.get i with
      | some b, some (.sh _) => (match opBin o (.int a) (.int b) with
        | some (.val z) => .ok .next (ρ.set i (some (.sh z)))
        | _ => .no)
      | _, _ => .no)
    | _ => .no
  | .par i j a b => ((evE cx a ρ).bind R.still).bind fun ra ρ => ((evE cx b ρ).bind R.still).bind fun rb ρ =>
      if i = j then .no else (setR i ra ρ).bind fun _ ρ => (setR j rb ρ).bind fun _ ρ => .ok .next ρ
  | .expr e => (evE cx e ρ).bind fun _ ρ => .ok .next ρ
  | .ret e => (evE cx e ρ).bind fun r ρ => match retM r ρ with
    | some m => .ok (.ret m) ρ
    | none => .no
  | .retN => .ok (.ret (.sh .none)) ρ
  | .ite c a b => (evT cx c ρ).bind fun k ρ => if k then evSs cx a ρ else evSs cx b ρ
  | .for tg it b => (evI cx it ρ).bind fun items ρ => forL (fun d ρ => match Tg.put tg d ρ with
    | none => .no
    | some ρ => evSs cx b ρ) items ρ
  | .while c b => whileL (evT cx c) (evSs cx b) cx.fuel ρ
  | .pass => .ok .next ρ
  | .brk => .ok .brk ρ
  | .cont => .ok .cont ρ
  | .raise C es => .no
def evSs (cx : Cxt) (sts : List Sx) (ρ : Env) : Out Fl := match sts with
  | [] => .ok .next ρ
  | st :: sts => (evS cx st ρ).bind fun f ρ => match f with
    | .next => evSs cx sts ρ
    | f => .ok f ρ
end
/-- a def -/
structure Fd where
  nP : Nat
  nS : Nat
  body : List Sx
deriving Inhabited
/-- the parameters' own things behind the body -/
def finOf (ρ : Env) : List M → Nat → Option (List M)
  | [], _ => some []
  | m :: ms, i => (if m.isOwn then (ρ.get i).bind fun m' => gd (m'.pinned) m' else some m).bind fun x => (finOf ρ ms (i + 1)).map (x :: ·)
def runB (cx : Cxt) (fd : Fd) (ms : List M) : FOut :=
  if ms.length = fd.nP ∧ fd.nP ≤ fd.nS ∧ (ms.all fun m => !m.isOwn || m.pinned) = true then
    match evSs cx fd.body (ms.map some ++ List.replicate (fd.nS - fd.nP) none) with
    | .ok f ρ => (match (match f with | .ret m => some m | .next => some (.sh .none) | _ => none), finOf ρ ms 0 with
      | some m, some fin => .ret m fin
      | _, _ => .no)
    | .ex x ρ => (match finOf ρ ms 0 with
      | some fin => .ex x fin
      | none => .no)
    | .no => .no
  else .no
def run (prog : List Fd) (fuel : Nat) : Nat → Nat → List M → FOut
  | 0, _, _ => .no
  | n + 1, f, ms => match prog[f]? with
    | some fd => runB ⟨run prog fuel n, fuel⟩ fd ms
    | none => .no
end MI
namespace MI
open PySem PySem.Spec PyProof.Rows L2
abbrev Fz := Addr → Prop
/-- a tuple of the written part -/
def KTup (K : PySem.W.Frag) (a : Addr) (xs : List V) : Prop :=
  ∃ (o : Obj) (its : Array Value) (n : Nat), K.lookup a = some o ∧ o.cls = .type "tuple" ∧ o.data = .seq its n ∧ its.size ≤ sizeLine ∧ Vals xs its.toList
/-- a list of the written part -/
def KLst (K : PySem.W.Frag) (a : Addr) (xs : List V) : Prop :=
  ∃ (o : Obj) (its : Array Value) (n : Nat), K.lookup a = some o ∧ o.cls = .type "list" ∧ o.dict = none ∧ o.data = .seq its n ∧ its.size ≤ sizeLine ∧ Vals xs its.toList
mutual
/-- v is the data d, all of it in F -/
inductive Dat (K : PySem.W.Frag) (F : Fz) (H : Hp) : V → D → Prop
  | non : Dat K F H .non .none
  | bl (b : Bool) : Dat K F H (.bl b) (.bool b)
  | int (i : Int) : Dat K F H (.int i) (.int i)
  | str (x : Str) : Dat K F H (.str x) (.str x)
  | lst {a : Addr} {xs : List V} {ds : List D} : F a → H a = some (.lst xs) → Dats K F H xs ds → Dat K F H (.ref a) (.list ds)
  | tup {a : Addr} {xs : List V} {ds : List D} : F a → H a = some (.tup xs) → Dats K F H xs ds → Dat K F H (.ref a) (.tuple ds)
  | ktup {a : Addr} {xs : List V} {ds : List D} : KTup K a xs → Dats K F H xs ds → Dat K F H (.ref a) (.tuple ds)
  | dK {a : Addr} {kvs : List (Key × V)} {ds : List (D × D)} : F a → H a = some (.dK kvs) → Dats K F H (kvs.map fun p => kV p.1) (ds.map (·.1)) → Dats K F H (kvs.map (·.2)) (ds.map (·.2)) → Dat K F H (.ref a) (.dict ds)
inductive Dats (K : PySem.W.Frag) (F : Fz) (H : Hp) : List V → List D → Prop
  | nil : Dats K F H [] []
  | cons {v : V} {vs : List V} {d : D} {ds : List D} : Dat K F H v d → Dats K F H vs ds → Dats K F H (v :: vs) (d :: ds)
end
variable {K : PySem.W.Frag} {F F' : Fz} {H H' : Hp} {O O' : Fz}
theorem Dats.length {K : PySem.W.Frag} {F : Fz} {H : Hp} : ∀ {vs : List V} {ds : List D}, Dats K F H vs ds → vs.length = ds.length
  | [], _, h => by cases h; rfl
  | v :: vs, _, h => by
    cases h with
    | cons a b => simp [Dats.length b]
theorem Dats.append : ∀ {vs ws : List V} {ds es : List D}, Dats K F H vs ds → Dats K F H ws es → Dats K F H (vs ++ ws) (ds ++ es)
  | [], _, _, _, h, k => by cases h; exact k
  | v :: vs, _, _, _, h, k => by
    cases h with
    | cons a b => exact .cons a (Dats.append b k)
theorem Dats.one {v : V} {d : D} (h : Dat K F H v d) : Dats K F H [v] [d] := .cons h .nil
theorem Dats.get : ∀ {vs : List V} {ds : List D} {i : Nat} {d : D}, Dats K F H vs ds → ds[i]? = some d → ∃ v, vs[i]? = some v ∧ Dat K F H v d
  | [], _, _, _, h, e => by cases h; simp at e
  | v :: vs, _, 0, _, h, e => by
    cases h with
    | cons a b => simp at e; subst e; exact ⟨v, rfl, a⟩
  | v :: vs, _, i + 1, _, h, e => by
    cases h with
    | cons a b => obtain ⟨w, h1, h2⟩ := Dats.get (i := i) b (by simpa using e); exact ⟨w, by simpa using h1, h2⟩
theorem Dats.get' : ∀ {vs : List V} {ds : List D} {i : Nat} {v : V}, Dats K F H vs ds → vs[i]? = some v → ∃ d, ds[i]? = some d ∧ Dat K F H v d
  | [], _, _, _, h, e => by simp at e
  | w :: vs, _, 0, _, h, e => by
    cases h with
    | cons a b => simp at e; subst e; exact ⟨_, rfl, a⟩
  | w :: vs, _, i + 1, _, h, e => by
    cases h with
    | cons a b => obtain ⟨d, h1, h2⟩ := Dats.get' (i := i) b (by simpa using e); exact ⟨d, by simpa using h1, h2⟩
theorem Dats.take : ∀ {vs : List V} {ds : List D} (n : Nat), Dats K F H vs ds → Dats K F H (vs.take n) (ds.take n)
  | _, _, 0, _ => by simpa using Dats.nil
  | [], _, n + 1, h => by cases h; simpa using Dats.nil
  | v :: vs, _, n + 1, h => by
    cases h with
    | cons a b => exact .cons a (Dats.take n b)
theorem Dats.drop : ∀ {vs : List V} {ds : List D} (n : Nat), Dats K F H vs ds → Dats K F H (vs.drop n) (ds.drop n)
  | _, _, 0, h => by simpa using h
  | [], _, n + 1, h => by cases h; simpa using Dats.nil
  | v :: vs, _, n + 1, h => by
    cases h with
    | cons a b => simpa using Dats.drop n b
theorem Dats.reverse : ∀ {vs : List V} {ds : List D}, Dats K F H vs ds → Dats K F H vs.reverse ds.reverse
  | [], _, h => by cases h; exact .nil
  | v :: vs, _, h => by
    cases h with
    | cons a b => simpa using Dats.append (Dats.reverse b) (.one a)
theorem Dats.set : ∀ {vs : List V} {ds : List D} (i : Nat) {v : V} {d : D}, Dats K F H vs ds → Dat K F H v d → Dats K F H (vs.set i v) (ds.set i d)
  | [], _, _, _, _, h, _ => by cases h; exact .nil
  | w :: vs, _, 0, _, _, h, k => by
    cases h with
    | cons a b => exact .cons k b
  | w :: vs, _, i + 1, _, _, h, k => by
    cases h with
    | cons a b => exact .cons a (Dats.set i b k)
theorem Dats.eraseIdx : ∀ {vs : List V} {ds : List D} (i : Nat), Dats K F H vs ds → Dats K F H (vs.eraseIdx i) (ds.eraseIdx i)
  | [], _, _, h => by cases h; exact .nil
  | w :: vs, _, 0, h => by
    cases h with
    | cons a b => exact b
  | w :: vs, _, i + 1, h => by
    cases h with
    | cons a b => exact .cons a (Dats.eraseIdx i b)
theorem Dats.rep {vs : List V} {ds : List D} (h : Dats K F H vs ds) : ∀ n : Nat, Dats K F H (List.replicate n vs).flatten (List.replicate n ds).flatten
  | 0 => by simpa using Dats.nil
  | n + 1 => by simpa [List.replicate_succ] using Dats.append h (Dats.rep h n)
theorem Dats.dropLast {vs : List V} {ds : List D} (h : Dats K F H vs ds) : Dats K F H vs.dropLast ds.dropLast := by
  rw [List.dropLast_eq_take, List.dropLast_eq_take, h.length]
  exact h.take _
/-- nothing in F changes -/
def Ext (F : Fz) (H : Hp) (F' : Fz) (H' : Hp) : Prop := ∀ a, F a → F' a ∧ H' a = H a
theorem Rd.ext {H H' : Hp} {a : Addr} {u : HO} (e : H' a = H a) (r : Rd H a u) : Rd H' a u := by
  unfold Rd at *
  rw [e]
  exact r
mutual
theorem Dat.ext (x : Ext F H F' H') : ∀ {v : V} {d : D}, Dat K F H v d → Dat K F' H' v d
  | _, _, .non => .non
  | _, _, .bl b => .bl b
  | _, _, .int i => .int i
  | _, _, .str s => .str s
  | _, _, .lst f r t => .lst (x _ f).1 ((x _ f).2.trans r) (Dats.ext x t)
  | _, _, .tup f r t => .tup (x _ f).1 ((x _ f).2.trans r) (Dats.ext x t)
  | _, _, .ktup r t => .ktup r (Dats.ext x t)
  | _, _, .dK f r t u => .dK (x _ f).1 ((x _ f).2.trans r) (Dats.ext x t) (Dats.ext x u)
theorem Dats.ext (x : Ext F H F' H') : ∀ {vs : List V} {ds : List D}, Dats K F H vs ds → Dats K F' H' vs ds
  | _, _, .nil => .nil
  | _, _, .cons a b => .cons (Dat.ext x a) (Dats.ext x b)
end
/-- data at the top of which may stand a thing of one's own -/
inductive Dat1 (K : PySem.W.Frag) (F : Fz) (H : Hp) : V → D → Prop
  | sh {v : V} {d : D} : Dat K F H v d → Dat1 K F H v d
  | ol {a : Addr} {vs : List V} {xs : List D} : H a = some (.lst vs) → Dats K F H vs xs → Dat1 K F H (.ref a) (.list xs)
  | od {a : Addr} {kvs : List (Key × V)} {ds : List (D × D)} : H a = some (.dK kvs) → Dats K F H (kvs.map fun p => kV p.1) (ds.map (·.1)) → Dats K F H (kvs.map (·.2)) (ds.map (·.2)) → Dat1 K F H (.ref a) (.dict ds)
/-! ### one step -/
structure Stp (F : Fz) (H : Hp) (O : Fz) (F' : Fz) (H' : Hp) (O' : Fz) : Prop where
  fz : ∀ a, F a → F' a
  fz' : ∀ a, F' a → F a ∨ H a = none ∨ O a
  ow : ∀ a, O' a → O a ∨ H a = none
  hp : ∀ a, H a ≠ none → ¬ O a → H' a = H a
  all : ∀ a, H a ≠ none → H' a ≠ none
theorem Stp.refl : Stp F H O F H O := ⟨fun _ h => h, fun _ h => .inl h, fun _ h => .inl h, fun _ _ _ => rfl, fun _ h => h⟩
theorem Stp.none {F F1 : Fz} {H H1 : Hp} {O O1 : Fz} (a : Stp F H O F1 H1 O1) {b : Addr} (h : H1 b = none) : H b = none := by
  cases q : H b with
  | none => rfl
  | some o => exact absurd h (a.all b (by rw [q]; simp))
theorem Stp.trans {F F1 F2 : Fz} {H H1 H2 : Hp} {O O1 O2 : Fz} (a : Stp F H O F1 H1 O1) (b : Stp F1 H1 O1 F2 H2 O2) : Stp F H O F2 H2 O2 where
  fz := fun c h => b.fz c (a.fz c h)
  fz' := fun c h => by
    rcases b.fz' c h with h | h | h
    · exact a.fz' c h
    · exact .inr (.inl (a.none h))
    · rcases a.ow c h with h | h
      · exact .inr (.inr h)
      · exact .inr (.inl h)
  ow := fun c h => by
    rcases b.ow c h with h | h
    · exact a.ow c h
    · exact .inr (a.none h)
  hp := fun c h n => by
    have e := a.hp c h n
    rw [← e]
    refine b.hp c (a.all c h) fun q => ?_
    rcases a.ow c q with q | q
    · exact n q
    · exact h q
  all := fun c h => b.all c (a.all c h)
/-- what a name holds -/
def RepM (K : PySem.W.Frag) (F : Fz) (H : Hp) (O : Fz) (v : V) : M → Prop
  | .sh d => Dat K F H v d
  | .ol _ xs => ∃ a vs, v = .ref a ∧ O a ∧ H a = some (.lst vs) ∧ Dats K F H vs xs
  | .od _ ds => ∃ a kvs, v = .ref a ∧ O a ∧ H a = some (.dK kvs) ∧ Dats K F H (kvs.map fun p => kV p.1) (ds.map (·.1)) ∧ Dats K F H (kvs.map (·.2)) (ds.map (·.2))
  | .ob _ _ => False
  | .sc ns => ∃ a, v = .ref a ∧ ((F a ∧ Rd H a (.lst (ns.map V.int))) ∨ KLst K a (ns.map V.int))
structure StI (K : PySem.W.Frag) (F : Fz) (H : Hp) (O : Fz) (σ : L2.St) (ρ : Env) : Prop where
  len : σ.length = ρ.length
  var : ∀ i m, ρ.get i = some m → ∃ v, σ[i]? = some (some v) ∧ RepM K F H O v m
  dom : ∀ a, F a → H a ≠ none
  odom : ∀ a, O a → H a ≠ none ∧ ¬ F a
  sep : ∀ i j a m m', i ≠ j → ρ.get i = some m → ρ.get j = some m' → m.isOwn = true → m'.isOwn = true → σ[i]? = some (some (.ref a)) → σ[j]? = some (some (.ref a)) → False
/-- pinned ones stay pinned -/
def Pin (ρ ρ' : Env) : Prop := ρ'.length = ρ.length ∧ ∀ i m, ρ.get i = some m → m.pinned = true → ∃ m', ρ'.get i = some m' ∧ m'.pinned = true
theorem Pin.refl (ρ : Env) : Pin ρ ρ := ⟨rfl, fun _ m h p => ⟨m, h, p⟩⟩
theorem Pin.trans {ρ ρ1 ρ2 : Env} (a : Pin ρ ρ1) (b : Pin ρ1 ρ2) : Pin ρ ρ2 := ⟨b.1.trans a.1, fun i m h p => by
  obtain ⟨m1, h1, p1⟩ := a.2 i m h p
  exact b.2 i m1 h1 p1⟩
/-- what an expression gives; H0: the heap at its start -/
def RepR (K : PySem.W.Frag) (H0 : Hp) (F : Fz) (H : Hp) (O : Fz) (σ : L2.St) (v : V) : R → Prop
  | .val d => Dat K F H v d
  | .new xs => ∃ a vs, v = .ref a ∧ ¬ F a ∧ ¬ O a ∧ H0 a = none ∧ H a = some (.lst vs) ∧ Dats K F H vs xs
  | .newd ds => ∃ a kvs, v = .ref a ∧ ¬ F a ∧ ¬ O a ∧ H0 a = none ∧ H a = some (.dK kvs) ∧ Dats K F H (kvs.map fun p => kV p.1) (ds.map (·.1)) ∧ Dats K F H (kvs.map (·.2)) (ds.map (·.2))
  | .own i => σ[i]? = some (some v)
  | .ob _ _ => False
  | .sc ns => ∃ a, v = .ref a ∧ ((F a ∧ Rd H a (.lst (ns.map V.int))) ∨ KLst K a (ns.map V.int))
theorem StI.ext {σ : L2.St} {ρ : Env} (S : StI K F H O σ ρ) (t : Stp F H O F' H' O') : Ext F H F' H' := fun a f => ⟨t.fz a f, t.hp a (S.dom a f) fun o => (S.odom a o).2 f⟩
theorem RepR.stp {H0 : Hp} {σ : L2.St} {ρ : Env} {v : V} {r : R} (S : StI K F H O σ ρ) (t : Stp F H O F' H' O') (h : RepR K H0 F H O σ v r) : RepR K H0 F' H' O' σ v r := by
  have x := S.ext t
  have keep : ∀ a (o : HO), ¬ F a → ¬ O a → H a = some o → ¬ F' a ∧ ¬ O' a ∧ H' a = some o := fun a o nf no e => by
    have ne : H a ≠ none := by rw [e]; simp
    refine ⟨fun q => ?_, fun q => ?_, (t.hp a ne no).trans e⟩
    · rcases t.fz' a q with q | q | q
      · exact nf q
      · exact ne q
      · exact no q
    · rcases t.ow a q with q | q
      · exact no q
      · exact ne q
  cases r with
  | val d => exact Dat.ext x h
  | new xs =>
    obtain ⟨a, vs, e, nf, no, h0, ha, hd⟩ := h
    obtain ⟨k1, k2, k3⟩ := keep a _ nf no ha
    exact ⟨a, vs, e, k1, k2, h0, k3, Dats.ext x hd⟩
  | newd ds =>
    obtain ⟨a, kvs, e, nf, no, h0, ha, hd, hd2⟩ := h
    obtain ⟨k1, k2, k3⟩ := keep a _ nf no ha
    exact ⟨a, kvs, e, k1, k2, h0, k3, Dats.ext x hd, Dats.ext x hd2⟩
  | own i => exact h
  | ob C fs => exact h
  | sc ns =>
    obtain ⟨a, e, h⟩ := h
    rcases h with ⟨f, r⟩ | r
    · exact ⟨a, e, .inl ⟨(x a f).1, Rd.ext (x a f).2 r⟩⟩
    · exact ⟨a, e, .inr r⟩
theorem RepR.from {H0 H1 : Hp} {σ : L2.St} {v : V} {r : R} (k : ∀ a, H1 a = none → H0 a = none) (h : RepR K H1 F H O σ v r) : RepR K H0 F H O σ v r := by
  cases r with
  | val d => exact h
  | new xs => obtain ⟨a, vs, e, nf, no, h0, r⟩ := h; exact ⟨a, vs, e, nf, no, k a h0, r⟩
  | newd ds => obtain ⟨a, vs, e, nf, no, h0, r⟩ := h; exact ⟨a, vs, e, nf, no, k a h0, r⟩
  | own i => exact h
  | ob C fs => exact h
  | sc ns => exact h
theorem cont_ok {H0 : Hp} {σ : L2.St} {ρ : Env} {v : V} {r : R} {d : D} (S : StI K F H O σ ρ) (h : RepR K H0 F H O σ v r) (e : r.cont ρ = some d) : Dat1 K F H v d := by
  cases r with
  | val x => cases e; exact .sh h
  | new xs => cases e; obtain ⟨a, vs, rfl, _, _, _, ha, hd⟩ := h; exact .ol ha hd
  | newd ds => cases e; obtain ⟨a, vs, rfl, _, _, _, ha, hd, hd2⟩ := h; exact .od ha hd hd2
  | own i =>
    change (ρ.get i).bind M.cont = some d at e
    cases q : ρ.get i with
    | none => rw [q] at e; cases e
    | some m =>
      rw [q] at e
      obtain ⟨w, hw, rm⟩ := S.var i m q
      have ew : w = v := by
        have := hw.symm.trans h
        simpa using this
      subst ew
      cases m with
      | sh x => cases e; exact .sh rm
      | ol p xs => cases e; obtain ⟨a, vs, rfl, _, ha, hd⟩ := rm; exact .ol ha hd
      | od p xs => cases e; obtain ⟨a, vs, rfl, _, ha, hd, hd2⟩ := rm; exact .od ha hd hd2
      | ob C fs => cases e
      | sc ns => cases e
  | ob C fs => exact h.elim
  | sc ns => cases e
/-- .. or the script -/
inductive Dat2 (K : PySem.W.Frag) (F : Fz) (H : Hp) : V → D → Prop
  | sh {v : V} {d : D} : Dat1 K F H v d → Dat2 K F H v d
  | sc {a : Addr} {ns : List Int} : SqL K H a (ns.map V.int) → Dat2 K F H (.ref a) (.list (ns.map .int))
theorem contS_ok {H0 : Hp} {σ : L2.St} {ρ : Env} {v : V} {r : R} {d : D} (S : StI K F H O σ ρ) (h : RepR K H0 F H O σ v r) (e : r.contS ρ = some d) : Dat2 K F H v d := by
  cases r with
  | sc ns =>
    cases e
    obtain ⟨a, rfl, h⟩ := h
    rcases h with ⟨_, r⟩ | r
    · exact .sc (.inl r)
    · exact .sc (.inr r)
  | val x => exact .sh (cont_ok S h e)
  | new x => exact .sh (cont_ok S h e)
  | newd x => exact .sh (cont_ok S h e)
  | own x => exact .sh (cont_ok S h e)
  | ob C fs => exact .sh (cont_ok S h e)
end MI
namespace MI
open PySem PySem.Spec PyProof.Rows L2
variable {K : PySem.W.Frag} {F F' : Fz} {H H' : Hp} {O O' : Fz} {σ : L2.St} {ρ ρ' : Env}
theorem get_set_self {i : Nat} {x : Option M} (h : i < ρ.length) : Env.get (ρ.set i x) i = x := by
  unfold Env.get
  rw [List.getElem?_set_self h]
  rfl
theorem get_set_ne {i j : Nat} {x : Option M} (h : i ≠ j) : Env.get (ρ.set i x) j = ρ.get j := by
  unfold Env.get
  rw [List.getElem?_set_ne h]
theorem get_lt {i : Nat} {m : M} (h : ρ.get i = some m) : i < ρ.length := by
  rcases Nat.lt_or_ge i ρ.length with q | q
  · exact q
  · unfold Env.get at h
    rw [List.getElem?_eq_none q] at h
    cases h
theorem get_set_cases {i j : Nat} {x : Option M} {m : M} (h : Env.get (ρ.set i x) j = some m) : (i = j ∧ x = some m) ∨ (i ≠ j ∧ ρ.get j = some m) := by
  by_cases e : i = j
  · subst e
    have hl : i < (ρ.set i x).length := get_lt h
    rw [List.length_set] at hl
    rw [get_set_self hl] at h
    exact .inl ⟨rfl, h⟩
  · rw [get_set_ne e] at h
    exact .inr ⟨e, h⟩
theorem Pin.set {i : Nat} {x : Option M} (h : ∀ m, ρ.get i = some m → m.pinned = true → ∃ m', x = some m' ∧ m'.pinned = true) : Pin ρ (ρ.set i x) := by
  refine ⟨List.length_set .., fun j m e p => ?_⟩
  by_cases q : i = j
  · subst q
    obtain ⟨m', rfl, p'⟩ := h m e p
    exact ⟨m', get_set_self (get_lt e), p'⟩
  · exact ⟨m, by rw [get_set_ne q]; exact e, p⟩
theorem Dat.sub (x : ∀ a, F a → F' a) {v : V} {d : D} (h : Dat K F H v d) : Dat K F' H v d := Dat.ext (fun a f => ⟨x a f, rfl⟩) h
theorem Dats.sub (x : ∀ a, F a → F' a) {vs : List V} {ds : List D} (h : Dats K F H vs ds) : Dats K F' H vs ds := Dats.ext (fun a f => ⟨x a f, rfl⟩) h
theorem RepM.mono {v : V} {m : M} (x : ∀ a, F a → F' a) (y : ∀ a, v = .ref a → m.isOwn = true → O a → O' a) (h : RepM K F H O v m) : RepM K F' H O' v m := by
  cases m with
  | sh d => exact Dat.sub x h
  | ol p xs => obtain ⟨a, vs, e, o, ha, hd⟩ := h; exact ⟨a, vs, e, y a e rfl o, ha, Dats.sub x hd⟩
  | od p xs => obtain ⟨a, vs, e, o, ha, hd, hd2⟩ := h; exact ⟨a, vs, e, y a e rfl o, ha, Dats.sub x hd, Dats.sub x hd2⟩
  | ob C fs => exact h
  | sc ns =>
    obtain ⟨a, e, h⟩ := h
    rcases h with ⟨f, r⟩ | r
    · exact ⟨a, e, .inl ⟨x a f, r⟩⟩
    · exact ⟨a, e, .inr r⟩
/-- what an own one stands at -/
theorem RepM.own {v : V} {m : M} (h : RepM K F H O v m) (o : m.isOwn = true) : ∃ a, v = .ref a ∧ O a := by
  cases m with
  | sh d => cases o
  | ol p xs => obtain ⟨a, vs, e, o, _⟩ := h; exact ⟨a, e, o⟩
  | od p xs => obtain ⟨a, vs, e, o, _⟩ := h; exact ⟨a, e, o⟩
  | ob C fs => cases o
  | sc ns => cases o
theorem StI.more (S : StI K F H O σ ρ) (G : Fz) (g : ∀ a, G a → H a ≠ none ∧ ¬ O a) : StI K (fun a => F a ∨ G a) H O σ ρ := by
  refine ⟨S.len, fun i m e => ?_, fun a f => ?_, fun a o => ⟨(S.odom a o).1, fun f => ?_⟩, S.sep⟩
  · obtain ⟨v, h1, h2⟩ := S.var i m e
    exact ⟨v, h1, h2.mono (fun a => .inl) fun _ _ _ h => h⟩
  · rcases f with f | f
    · exact S.dom a f
    · exact (g a f).1
  · rcases f with f | f
    · exact (S.odom a o).2 f
    · exact (g a f).2 o
/-- a name's own thing is shared from now on -/
theorem StI.give {i : Nat} {m : M} {a : Addr} {d : D} (S : StI K F H O σ ρ) (e : ρ.get i = some m) (o : m.isOwn = true) (hv : σ[i]? = some (some (.ref a))) (hd : Dat K (fun b => F b ∨ b = a) H (.ref a) d) :
    StI K (fun b => F b ∨ b = a) H (fun b => O b ∧ b ≠ a) σ (ρ.set i (some (.sh d))) := by
  have oa : O a := by
    obtain ⟨v, h1, h2⟩ := S.var i m e
    obtain ⟨b, h3, h4⟩ := h2.own o
    rw [hv] at h1
    cases h1
    cases h3
    exact h4
  refine ⟨by rw [List.length_set]; exact S.len, fun j m' ej => ?_, fun b f => ?_, fun b q => ?_, fun j k b m1 m2 ne e1 e2 o1 o2 h1 h2 => ?_⟩
  · rcases get_set_cases ej with ⟨rfl, q⟩ | ⟨ne, q⟩
    · cases q
      exact ⟨_, hv, hd⟩
    · obtain ⟨v, h1, h2⟩ := S.var j m' q
      refine ⟨v, h1, h2.mono (fun _ => .inl) fun b eb ob o' => ⟨o', fun eba => ?_⟩⟩
      subst eba
      subst eb
      exact S.sep i j b m m' ne e q o ob hv h1
  · rcases f with f | rfl
    · exact S.dom b f
    · exact (S.odom b oa).1
  · refine ⟨(S.odom b q.1).1, fun f => ?_⟩
    rcases f with f | f
    · exact (S.odom b q.1).2 f
    · exact q.2 f
  · rcases get_set_cases e1 with ⟨rfl, q⟩ | ⟨n1, q1⟩
    · cases q; cases o1
    · rcases get_set_cases e2 with ⟨rfl, q⟩ | ⟨n2, q2⟩
      · cases q; cases o2
      · exact S.sep j k b m1 m2 ne q1 q2 o1 o2 h1 h2
/-- what freezing does -/
structure FrzOk (K : PySem.W.Frag) (H0 : Hp) (F : Fz) (H : Hp) (O : Fz) (σ : L2.St) (ρ : Env) (v : V) (d : D) (ρ' : Env) (F' O' : Fz) : Prop where
  st : StI K F' H O' σ ρ'
  dat : Dat K F' H v d
  pin : Pin ρ ρ'
  fz : ∀ a, F a → F' a
  fz' : ∀ a, F' a → F a ∨ H0 a = none ∨ O a
  ow : ∀ a, O' a → O a
theorem frz_ok {H0 : Hp} {v : V} {r : R} {d : D} (S : StI K F H O σ ρ) (h : RepR K H0 F H O σ v r) (e : MI.frz r ρ = .ok d ρ') : ∃ F' O', FrzOk K H0 F H O σ ρ v d ρ' F' O' := by
  cases r with
  | val x =>
    cases e
    exact ⟨F, O, S, h, .refl _, fun _ h => h, fun _ h => .inl h, fun _ h => h⟩
  | new xs =>
    cases e
    obtain ⟨a, vs, rfl, nf, no, h0, ha, hd⟩ := h
    refine ⟨fun b => F b ∨ b = a, O, S.more _ fun b eb => ?_, .lst (.inr rfl) ha (Dats.sub (fun _ => .inl) hd), .refl _, fun _ => .inl, fun b f => ?_, fun _ h => h⟩
    · subst eb; exact ⟨by rw [ha]; simp, no⟩
    · rcases f with f | rfl
      · exact .inl f
      · exact .inr (.inl h0)
  | newd xs =>
    cases e
    obtain ⟨a, vs, rfl, nf, no, h0, ha, hd, hd2⟩ := h
    refine ⟨fun b => F b ∨ b = a, O, S.more _ fun b eb => ?_, .dK (.inr rfl) ha (Dats.sub (fun _ => .inl) hd) (Dats.sub (fun _ => .inl) hd2), .refl _, fun _ => .inl, fun b f => ?_, fun _ h => h⟩
    · subst eb; exact ⟨by rw [ha]; simp, no⟩
    · rcases f with f | rfl
      · exact .inl f
      · exact .inr (.inl h0)
  | own i =>
    unfold MI.frz at e
    cases q : ρ.get i with
    | none => simp only [q] at e; cases e
    | some m =>
      simp only [q] at e
      obtain ⟨w, hw, rm⟩ := S.var i m q
      have ew : w = v := by
        have := hw.symm.trans h
        simpa using this
      subst ew
      cases m with
      | sh x =>
        cases e
        exact ⟨F, O, S, rm, .refl _, fun _ h => h, fun _ h => .inl h, fun _ h => h⟩
      | ol p xs =>
        cases p with
        | true => cases e
        | false =>
          cases e
          obtain ⟨a, vs, rfl, oa, ha, hd⟩ := rm
          have dd : Dat K (fun b => F b ∨ b = a) H (.ref a) (.list xs) := .lst (.inr rfl) ha (Dats.sub (fun _ => .inl) hd)
          refine ⟨_, _, S.give q rfl hw dd, dd, .set fun m e p => ?_, fun _ => .inl, fun b f => ?_, fun _ h => h.1⟩
          · rw [q] at e; cases e; cases p
          · rcases f with f | rfl
            · exact .inl f
            · exact .inr (.inr oa)
      | od p xs =>
        cases p with
        | true => cases e
        | false =>
          cases e
          obtain ⟨a, vs, rfl, oa, ha, hd, hd2⟩ := rm
          have dd : Dat K (fun b => F b ∨ b = a) H (.ref a) (.dict xs) := .dK (.inr rfl) ha (Dats.sub (fun _ => .inl) hd) (Dats.sub (fun _ => .inl) hd2)
          refine ⟨_, _, S.give q rfl hw dd, dd, .set fun m e p => ?_, fun _ => .inl, fun b f => ?_, fun _ h => h.1⟩
          · rw [q] at e; cases e; cases p
          · rcases f with f | rfl
            · exact .inl f
            · exact .inr (.inr oa)
      | ob C fs => cases e
      | sc ns => cases e
  | ob C fs => exact h.elim
  | sc ns => cases e
theorem FrzOk.stp {H0 : Hp} {F0 O0 : Fz} {v : V} {d : D} (z : FrzOk K H0 F H O σ ρ v d ρ' F' O') (t : Stp F0 H0 O0 F H O) : Stp F0 H0 O0 F' H O' where
  fz := fun a f => z.fz a (t.fz a f)
  fz' := fun a f => by
    rcases z.fz' a f with f | f | f
    · exact t.fz' a f
    · exact .inr (.inl f)
    · rcases t.ow a f with f | f
      · exact .inr (.inr f)
      · exact .inr (.inl f)
  ow := fun a o => t.ow a (z.ow a o)
  hp := t.hp
  all := t.all
/-- what a frz'd exception or nothing: frz never raises -/
theorem frz_ex {r : R} {x : Xn} (e : MI.frz r ρ = .ex x ρ') : False := by
  unfold MI.frz at e
  split at e <;> first | cases e | (split at e <;> cases e)
/-! ### what is wanted behind a piece -/
/-- how an exception lies (no objects yet) -/
abbrev XRep := Fz → Hp → Value → Option Addr → Xn → Prop
structure World1 where
  K : PySem.W.Frag
  xr : XRep
def WantG {α β : Type} (K : PySem.W.Frag) (xr : XRep) (W : WX) (rep : Fz → Hp → Fz → β → α → Prop) (σ : L2.St) (F : Fz) (H : Hp) (O : Fz) (ρ : Env) (o : Out α) (Q : β → Hp → Prop) : Prop := match o with
  | .ok a ρ' => ∀ F' H' O' b, StI K F' H' O' σ ρ' → Stp F H O F' H' O' → Pin ρ ρ' → rep F' H' O' b a → Q b H'
  | .ex x ρ' => ∀ F' H' O' cls d, StI K F' H' O' σ ρ' → Stp F H O F' H' O' → Pin ρ ρ' → xr F' H' cls d x → W cls d σ H'
  | .no => False
abbrev WantE (K : PySem.W.Frag) (xr : XRep) (W : WX) (σ : L2.St) (F : Fz) (H : Hp) (O : Fz) (ρ : Env) (o : Out R) (Q : VK) : Prop :=
  WantG K xr W (fun F' H' O' v r => RepR K H F' H' O' σ v r) σ F H O ρ o Q
abbrev WantD (K : PySem.W.Frag) (xr : XRep) (W : WX) (σ : L2.St) (F : Fz) (H : Hp) (O : Fz) (ρ : Env) (o : Out D) (Q : VK) : Prop :=
  WantG K xr W (fun F' H' O' v d => Dat K F' H' v d) σ F H O ρ o Q
abbrev WantB (K : PySem.W.Frag) (xr : XRep) (W : WX) (σ : L2.St) (F : Fz) (H : Hp) (O : Fz) (ρ : Env) (o : Out Bool) (Q : Bool → Hp → Prop) : Prop :=
  WantG K xr W (fun _ _ _ b a => b = a) σ F H O ρ o Q
abbrev WantDs (K : PySem.W.Frag) (xr : XRep) (W : WX) (σ : L2.St) (F : Fz) (H : Hp) (O : Fz) (ρ : Env) (o : Out (List D)) (Q : List V → Hp → Prop) : Prop :=
  WantG K xr W (fun F' H' O' vs ds => Dats K F' H' vs ds) σ F H O ρ o Q
/-- a step first: what is wanted behind the rest -/
theorem WantG.after {α β : Type} {xr : XRep} {W : WX} {rep : Fz → Hp → Fz → β → α → Prop} {o : Out α} {Q : β → Hp → Prop} (h : WantG K xr W rep σ F H O ρ o Q) (t : Stp F H O F' H' O') (p : Pin ρ ρ') : WantG K xr W rep σ F' H' O' ρ' o Q := by
  cases o with
  | ok a ρ2 => exact fun F2 H2 O2 b S2 t2 p2 r => h F2 H2 O2 b S2 (t.trans t2) (p.trans p2) r
  | ex x ρ2 => exact fun F2 H2 O2 c d S2 t2 p2 r => h F2 H2 O2 c d S2 (t.trans t2) (p.trans p2) r
  | no => exact h
theorem WantE.after {xr : XRep} {W : WX} {o : Out R} {Q : VK} (h : WantE K xr W σ F H O ρ o Q) (t : Stp F H O F' H' O') (p : Pin ρ ρ') : WantE K xr W σ F' H' O' ρ' o Q := by
  cases o with
  | ok a ρ2 => exact fun F2 H2 O2 b S2 t2 p2 r => h F2 H2 O2 b S2 (t.trans t2) (p.trans p2) (r.from fun a e => t.none e)
  | ex x ρ2 => exact fun F2 H2 O2 c d S2 t2 p2 r => h F2 H2 O2 c d S2 (t.trans t2) (p.trans p2) r
  | no => exact h
end MI
namespace MI
open PySem PySem.Spec PyProof.Rows L2
variable {K : PySem.W.Frag} {F F' : Fz} {H H' : Hp} {O O' : Fz} {σ : L2.St} {ρ ρ' : Env}
/-- a value just made -/
inductive NewR (K : PySem.W.Frag) (F : Fz) (H : Hp) : V → Hp → R → Prop
  | same {v : V} {d : D} : Dat K F H v d → NewR K F H v H (.val d)
  | tup {p : Addr} {vs : List V} {ds : List D} : H p = none → Dats K F H vs ds → NewR K F H (.ref p) (upd H p (.tup vs)) (.val (.tuple ds))
  | lst {p : Addr} {vs : List V} {ds : List D} : H p = none → Dats K F H vs ds → NewR K F H (.ref p) (upd H p (.lst vs)) (.new ds)
  | dK {p : Addr} {kvs : List (Key × V)} {ds : List (D × D)} : H p = none → Dats K F H (kvs.map fun p => kV p.1) (ds.map (·.1)) → Dats K F H (kvs.map (·.2)) (ds.map (·.2)) → NewR K F H (.ref p) (upd H p (.dK kvs)) (.newd ds)
/-- a new thing is laid, nothing else changes -/
theorem StI.laid {p : Addr} {o : HO} (S : StI K F H O σ ρ) (n : H p = none) : StI K F (upd H p o) O σ ρ := by
  have x : Ext F H F (upd H p o) := fun a f => ⟨f, upd_ne fun e => S.dom a f (by rw [e]; exact n)⟩
  refine ⟨S.len, fun i m e => ?_, fun a f => ?_, fun a q => ⟨?_, (S.odom a q).2⟩, S.sep⟩
  · obtain ⟨v, h1, h2⟩ := S.var i m e
    refine ⟨v, h1, ?_⟩
    cases m with
    | sh d => exact Dat.ext x h2
    | ol p' xs =>
      obtain ⟨a, vs, e, oa, ha, hd⟩ := h2
      exact ⟨a, vs, e, oa, (upd_ne (ne_of_none ha n)).trans ha, Dats.ext x hd⟩
    | od p' xs =>
      obtain ⟨a, vs, e, oa, ha, hd, hd2⟩ := h2
      exact ⟨a, vs, e, oa, (upd_ne (ne_of_none ha n)).trans ha, Dats.ext x hd, Dats.ext x hd2⟩
    | ob C fs => exact h2
    | sc ns =>
      obtain ⟨a, e, h⟩ := h2
      rcases h with ⟨f, r⟩ | r
      · exact ⟨a, e, .inl ⟨f, Rd.ext (x a f).2 r⟩⟩
      · exact ⟨a, e, .inr r⟩
  · rw [(x a f).2]; exact S.dom a f
  · rw [upd_ne fun e => (S.odom a q).1 (by rw [e]; exact n)]; exact (S.odom a q).1
theorem stp_laid {p : Addr} {o : HO} (n : H p = none) : Stp F H O F (upd H p o) O := by
  refine ⟨fun _ h => h, fun _ h => .inl h, fun _ h => .inl h, fun a h _ => upd_ne fun e => h (by rw [e]; exact n), fun a h => ?_⟩
  by_cases e : a = p
  · subst e; exact absurd n h
  · rw [upd_ne e]; exact h
theorem StI.nof {p : Addr} (S : StI K F H O σ ρ) (n : H p = none) : ¬ F p := fun f => S.dom p f n
theorem StI.noo {p : Addr} (S : StI K F H O σ ρ) (n : H p = none) : ¬ O p := fun f => (S.odom p f).1 n
theorem NewR.use {v : V} {r : R} (S : StI K F H O σ ρ) (h : NewR K F H v H' r) : ∃ F', StI K F' H' O σ ρ ∧ Stp F H O F' H' O ∧ RepR K H F' H' O σ v r := by
  cases h with
  | same d => exact ⟨F, S, .refl, d⟩
  | @tup p vs ds n d =>
    have S1 : StI K F (upd H p (.tup vs)) O σ ρ := S.laid n
    have t1 : Stp F H O F (upd H p (.tup vs)) O := stp_laid n
    refine ⟨fun b => F b ∨ b = p, S1.more _ fun b e => ?_, ⟨fun _ => .inl, fun b f => ?_, t1.ow, t1.hp, t1.all⟩, .tup (.inr rfl) upd_same (Dats.sub (fun _ => .inl) (Dats.ext (S.ext t1) d))⟩
    · subst e; exact ⟨by rw [upd_same]; simp, S.noo n⟩
    · rcases f with f | rfl
      · exact .inl f
      · exact .inr (.inl n)
  | @lst p vs ds n d =>
    exact ⟨F, S.laid n, stp_laid n, p, vs, rfl, S.nof n, S.noo n, n, upd_same, Dats.ext (S.ext (stp_laid (O := O) n)) d⟩
  | @dK p kvs ds n d d2 =>
    exact ⟨F, S.laid n, stp_laid n, p, kvs, rfl, S.nof n, S.noo n, n, upd_same, Dats.ext (S.ext (stp_laid (O := O) n)) d, Dats.ext (S.ext (stp_laid (O := O) n)) d2⟩
/-! ### data, taken apart -/
theorem Dat1.lst {v : V} {xs : List D} (h : Dat1 K F H v (.list xs)) : ∃ a vs, v = .ref a ∧ H a = some (.lst vs) ∧ Dats K F H vs xs := by
  cases h with
  | sh h => cases h with
    | lst f r t => exact ⟨_, _, rfl, r, t⟩
  | ol r t => exact ⟨_, _, rfl, r, t⟩
theorem Dat1.tup {v : V} {xs : List D} (h : Dat1 K F H v (.tuple xs)) : ∃ a vs, v = .ref a ∧ SqT K H a vs ∧ Dats K F H vs xs := by
  cases h with
  | sh h => cases h with
    | tup f r t => exact ⟨_, _, rfl, SqT.of r, t⟩
    | ktup r t => exact ⟨_, _, rfl, .inr r, t⟩
theorem Dat1.int {v : V} {i : Int} (h : Dat1 K F H v (.int i)) : v = .int i := by
  cases h with
  | sh h => cases h; rfl
theorem Dat1.bl {v : V} {i : Bool} (h : Dat1 K F H v (.bool i)) : v = .bl i := by
  cases h with
  | sh h => cases h; rfl
theorem Dat1.str {v : V} {i : Str} (h : Dat1 K F H v (.str i)) : v = .str i := by
  cases h with
  | sh h => cases h; rfl
theorem Dat1.non {v : V} (h : Dat1 K F H v .none) : v = .non := by
  cases h with
  | sh h => cases h; rfl
theorem Dat1.seq {v : V} {d : D} {xs : List D} (h : Dat1 K F H v d) (e : seqOf d = some xs) : ∃ a vs, v = .ref a ∧ (SqL K H a vs ∨ SqT K H a vs) ∧ Dats K F H vs xs := by
  cases d with
  | list ys => cases e; obtain ⟨a, vs, rfl, r, t⟩ := h.lst; exact ⟨a, vs, rfl, .inl (SqL.of r), t⟩
  | tuple ys => cases e; obtain ⟨a, vs, rfl, r, t⟩ := h.tup; exact ⟨a, vs, rfl, .inr r, t⟩
  | none => cases e
  | bool b => cases e
  | int i => cases e
  | str x => cases e
  | dict k => cases e
/-! ### as the library's data -/
section
variable {X : Cx} {pins : List (Addr × Obj)} {s : Shared}
mutual
theorem Dat.reads (I : Inv X pins σ H s) : ∀ (d : D) (v : V) (u : Value), Dat X.K F H v d → d.plain = true → RelV v u → ∃ as, Reads s.heap u d as
  | .none, _, _, h, _, r => by cases h; cases r; exact ⟨_, .none⟩
  | .bool b, _, _, h, _, r => by cases h; cases r; exact ⟨_, .bool b⟩
  | .int i, _, _, h, _, r => by cases h; obtain ⟨t, rfl⟩ := r; exact ⟨_, .int i t⟩
  | .str x, _, _, h, _, r => by cases h; obtain ⟨t, rfl⟩ := r; exact ⟨_, .str x t⟩
  | .list ds, _, _, h, p, r => by
    cases h with
    | lst f hs ha =>
      cases r
      obtain ⟨its, rv, ⟨o, n, ho, hc, _, hd⟩, _⟩ := I.list (SqL.of hs)
      obtain ⟨as, hr⟩ := Dats.reads I ds _ its ha (by simpa [PyData.plain] using p) rv
      exact ⟨_, .list ho hc hd hr⟩
  | .tuple ds, _, _, h, p, r => by
    have q : ∃ a vs, _ ∧ SqT X.K H a vs ∧ Dats X.K F H vs ds := Dat1.tup (.sh h)
    obtain ⟨a, vs, rfl, hs, ha⟩ := q
    cases r
    obtain ⟨its, rv, ⟨o, ho, hc, n, hd⟩, _⟩ := I.tuple hs
    obtain ⟨as, hr⟩ := Dats.reads I ds _ its ha (by simpa [PyData.plain] using p) rv
    exact ⟨_, .tuple ho hc hd hr⟩
  | .dict _, _, _, _, p, _ => by simp [PyData.plain] at p
theorem Dats.reads (I : Inv X pins σ H s) : ∀ (ds : List D) (vs : List V) (us : List Value), Dats X.K F H vs ds → PyData.plainAll ds = true → Vals vs us → ∃ as, ReadsAll s.heap us ds as
  | [], _, _, h, _, r => by cases h; cases r; exact ⟨_, .nil⟩
  | d :: ds, _, _, h, p, r => by
    cases h with
    | cons h1 h2 =>
      cases r with
      | cons r1 r2 =>
        have p' : d.plain = true ∧ PyData.plainAll ds = true := by simpa [PyData.plainAll] using p
        obtain ⟨as, q1⟩ := Dat.reads I d _ _ h1 p'.1 r1
        obtain ⟨bs, q2⟩ := Dats.reads I ds _ _ h2 p'.2 r2
        exact ⟨_, .cons q1 q2⟩
end
theorem Dat1.reads (I : Inv X pins σ H s) {d : D} {v : V} {u : Value} (h : Dat1 X.K F H v d) (p : d.plain = true) (r : RelV v u) : ∃ as, Reads s.heap u d as := by
  cases h with
  | sh h => exact Dat.reads I d v u h p r
  | ol hs ha =>
    cases r
    obtain ⟨its, rv, ⟨o, n, ho, hc, _, hd⟩, _⟩ := I.list (SqL.of hs)
    obtain ⟨as, hr⟩ := Dats.reads I _ _ its ha (by simpa [PyData.plain] using p) rv
    exact ⟨_, .list ho hc hd hr⟩
  | od hs ha hb => simp [PyData.plain] at p
end
/-! ### operators -/
def r2Of (K : PySem.W.Frag) (g : D → D → Option R) : R2 := fun x y H Q => ∃ F d e res, Dat1 K F H x d ∧ Dat1 K F H y e ∧ g d e = some res ∧ ∀ v H', NewR K F H v H' res → Q v H'
section
variable {X : Cx}
theorem gd_some {α : Type} {b : Bool} {a c : α} (h : gd b a = some c) : b = true ∧ a = c := by
  unfold gd at h
  cases b with
  | true => exact ⟨rfl, by simpa using h⟩
  | false => simp at h
theorem lim_eq : (Lim : Nat) = sizeLine := by rw [sizeLine_eq]
theorem add_ok : OpR X (binaryOp .Add) (r2Of X.K opAdd) := by
  intro pins s σ H x y v u Q I rx ry h
  obtain ⟨F, d, e, res, hx, hy, hg, hq⟩ := h
  cases d <;> cases e <;> try (simp [opAdd] at hg; done)
  · -- ints
    cases hx.int; cases hy.int
    simp only [opAdd, Option.some.injEq] at hg
    subst hg
    exact op_add pins s σ H _ _ v u Q I rx ry ⟨_, _, rfl, rfl, hq _ _ (.same (.int _))⟩
  · cases hx.str; cases hy.str
    obtain ⟨h1, rfl⟩ := gd_some hg
    exact op_add_str pins s σ H _ _ v u Q I rx ry ⟨_, _, rfl, rfl, by simpa [lim_eq] using h1, hq _ _ (.same (.str _))⟩
  · obtain ⟨a, vs, rfl, ha, da⟩ := hx.lst
    obtain ⟨b, ws, rfl, hb, db⟩ := hy.lst
    obtain ⟨h1, rfl⟩ := gd_some hg
    exact op_cat pins s σ H _ _ v u Q I rx ry ⟨a, b, vs, ws, rfl, rfl, ha, hb, by rw [da.length, db.length]; simpa [lim_eq] using h1, fun p hp => hq _ _ (.lst hp (da.append db))⟩
  · obtain ⟨a, vs, rfl, ha, da⟩ := hx.tup
    obtain ⟨b, ws, rfl, hb, db⟩ := hy.tup
    obtain ⟨h1, rfl⟩ := gd_some hg
    refine op_catA pins s σ H _ _ v u Q I rx ry ⟨a, b, vs, ws, rfl, rfl, ha, hb, by rw [da.length, db.length]; simpa [lim_eq] using h1, fun e => ?_, fun _ e => ?_, fun _ _ p hp => hq _ _ (.tup hp (da.append db))⟩
    · subst e
      cases da
      refine hq _ _ (.same ?_)
      cases hy with
      | sh hy => simpa using hy
    · subst e
      cases db
      refine hq _ _ (.same ?_)
      cases hx with
      | sh hx => simpa using hx
theorem int_ok {op : Operator} {f : Int → Int → Option Int} {C : Int → Int → Prop} {g : Int → Int → Int} (ho : OpR X (binaryOp op) (rI C fun i j => .int (g i j))) (hf : ∀ i j k, f i j = some k → C i j ∧ g i j = k) : OpR X (binaryOp op) (r2Of X.K (opInt f)) := by
  intro pins s σ H x y v u Q I rx ry h
  obtain ⟨F, d, e, res, hx, hy, hg, hq⟩ := h
  cases d <;> cases e <;> try (simp [opInt] at hg; done)
  cases hx.int; cases hy.int
  rename_i i j
  simp only [opInt, Option.map_eq_some_iff] at hg
  obtain ⟨k, hk, rfl⟩ := hg
  obtain ⟨hC, rfl⟩ := hf i j k hk
  exact ho pins s σ H _ _ v u Q I rx ry ⟨i, j, rfl, rfl, hC, hq _ _ (.same (.int _))⟩
theorem sub_ok : OpR X (binaryOp .Sub) (r2Of X.K (opInt iSub)) := int_ok (C := fun _ _ => True) (g := fun i j => i - j) (fun pins s σ H x y v u Q I rx ry ⟨i, j, a, b, _, q⟩ => op_sub pins s σ H x y v u Q I rx ry ⟨i, j, a, b, q⟩)
  fun i j k h => ⟨trivial, by simpa [iSub] using h⟩
theorem fdiv_ok : OpR X (binaryOp .FloorDiv) (r2Of X.K (opInt iFdiv)) := int_ok op_fdivW fun i j k h => by
  obtain ⟨h1, h2⟩ := gd_some h
  simp only [Bool.and_eq_true, decide_eq_true_eq] at h1
  exact ⟨wide_div (b := 200) h1.1 (Nat.lt_of_lt_of_le (show j.natAbs < 1000000000000000000000000000000000000000000000000000000000000 by omega) (by decide)) (by decide) (by decide), h2⟩
theorem mod_ok : OpR X (binaryOp .Mod) (r2Of X.K (opInt iMod)) := int_ok op_mod fun i j k h => by
  obtain ⟨h1, h2⟩ := gd_some h
  simp only [decide_eq_true_eq] at h1
  exact ⟨h1, h2⟩
theorem pow_ok : OpR X (binaryOp .Pow) (r2Of X.K (opInt iPow)) := int_ok op_pow fun i j k h => by
  obtain ⟨h1, h2⟩ := gd_some h
  simp only [Bool.and_eq_true, decide_eq_true_eq] at h1
  exact ⟨⟨h1.1.1, h1.1.2, h1.2⟩, h2⟩
/-- a tuple times 1, the empty tuple times anything: itself -/
theorem tuple_mulS (l : Addr) (items : Array Value) (n : Nat) (dd : Option Addr) (sl : Array (Option Value)) (x : Int) (u : Tok) (c0 : (decide (x < -(2 ^ 63)) || decide (x ≥ 2 ^ 63)) = false) (c1 : (items.isEmpty || x == 1) = true) :
    Meets (Builtin.«tuple.__mul__» ⟨[.ref l, .int x u], []⟩) (fun _ R s => s.heap.get? l = some { cls := .type "tuple", dict := dd, data := .seq items n, slots := sl } ∧ R (.ok (.ret (Value.ref l))) s) :=
  .of_wp fun prog w A R s h => by
    obtain ⟨hp, g, d, tk, os⟩ := s
    obtain ⟨hl, h⟩ := h
    have f1 := AutoSeq1.idx_int
    wp_walk using wpAny_loadPart' hl
    repeat (first
      | (refine wpAny_ite_false (decide_eq_false (by rw [c0]; exact Bool.false_ne_true)) ?_; wp_walk using wpAny_loadPart' hl)
      | (refine wpAny_ite_true (decide_eq_true (by rw [c1])) ?_; wp_walk using wpAny_loadPart' hl))
    exact ⟨_, rfl, h⟩
theorem op_repS {pins : List (Addr × Obj)} {s : Shared} {σ : L2.St} {H : Hp} {l : Addr} {k : Int} {xs : List V} {u : Value} {Q : VK} (I : Inv X pins σ H s) (ru : RelV (.int k) u) (hT : SqT X.K H l xs) (hk : k.natAbs < 2 ^ 62) (hc : xs = [] ∨ k = 1) (q : Q (.ref l) H) :
    wpAny (model X.prog X.w) X.A (binaryOp .Mult (.ref l) u) (EP X pins σ Q) X.xe s := by
  obtain ⟨t, rfl⟩ := ru
  obtain ⟨its, r, ⟨⟨cls, dd, data, sl⟩, ho, hc', n, hd⟩, hs⟩ := I.tuple hT
  simp only at hc' hd
  subst hc' hd
  have c0 : (decide (k < -(2 ^ 63)) || decide (k ≥ 2 ^ 63)) = false := by
    rw [decide_eq_false (by omega), decide_eq_false (by omega)] <;> rfl
  have c1 : (its.toArray.isEmpty || k == 1) = true := by
    rcases hc with rfl | rfl
    · cases r; rfl
    · simp
  exact wpAny_binaryOp_repeat_ref (T := "tuple") (U := "int") (by decide) ⟨_, ho, rfl⟩ (fun s' => typeIs_int s' k t) noFill_tuple_mul F.fills_int_mul F.slot_int_rmul repeat_tuple F.slot_int_index.lookup
    (call_meets F.slot_int_rmul (typeIs_int s k t) F.entry_int_rmul (F.args_int_rmul_2 _ _) (int_rmul_tuple k t l its.toArray n dd sl)
      ⟨ho, rfl, ⟨_, ho, rfl⟩, call_meets F.slot_tuple_mul ⟨_, ho, rfl⟩ F.entry_tuple_mul (F.args_tuple_mul_2 _ _) (tuple_mulS l its.toArray n dd sl k t c0 c1) ⟨ho, .ref l, H, I, rfl, q⟩⟩)
theorem tuple_mul0 (l : Addr) (items : Array Value) (n : Nat) (dd : Option Addr) (sl : Array (Option Value)) (u : Tok) (c1 : (items.isEmpty || (0 : Int) == 1) = false) :
    Meets (Builtin.«tuple.__mul__» ⟨[.ref l, .int 0 u], []⟩) (fun _ R s => s.heap.get? l = some { cls := .type "tuple", dict := dd, data := .seq items n, slots := sl } ∧ R (.ok (.ret (Value.ref s.heap.objs.size))) { s with heap := s.heap.push { cls := Value.type "tuple", data := Data.seq #[] } }) :=
  .of_wp fun prog w A R s h => by
    obtain ⟨hp, g, d, tk, os⟩ := s
    obtain ⟨hl, h⟩ := h
    have f1 := AutoSeq1.idx_int
    have c0 : (decide ((0 : Int) < -(2 ^ 63)) || decide ((0 : Int) ≥ 2 ^ 63)) = false := by decide
    have c2 : (decide ((0 : Int) ≤ 0) || items.isEmpty) = true := by simp
    wp_walk using wpAny_loadPart' hl
    repeat (first
      | (refine wpAny_ite_false (decide_eq_false (by rw [c0]; exact Bool.false_ne_true)) ?_; wp_walk using wpAny_loadPart' hl)
      | (refine wpAny_ite_false (decide_eq_false (by rw [c1]; exact Bool.false_ne_true)) ?_; wp_walk using wpAny_loadPart' hl)
      | (refine wpAny_ite_true (decide_eq_true (by rw [c2])) ?_; wp_walk using wpAny_loadPart' hl))
    exact ⟨_, rfl, h⟩
theorem op_rep0 {pins : List (Addr × Obj)} {s : Shared} {σ : L2.St} {H : Hp} {l : Addr} {xs : List V} {u : Value} {Q : VK} (I : Inv X pins σ H s) (ru : RelV (.int 0) u) (hT : SqT X.K H l xs) (hne : xs ≠ []) (q : ∀ p, H p = none → Q (.ref p) (upd H p (.tup []))) :
    wpAny (model X.prog X.w) X.A (binaryOp .Mult (.ref l) u) (EP X pins σ Q) X.xe s := by
  obtain ⟨t, rfl⟩ := ru
  obtain ⟨its, r, ⟨⟨cls, dd, data, sl⟩, ho, hc', n, hd⟩, hs⟩ := I.tuple hT
  simp only at hc' hd
  subst hc' hd
  have c1 : (its.toArray.isEmpty || (0 : Int) == 1) = false := by
    cases r with
    | nil => exact absurd rfl hne
    | cons a b => rfl
  refine wpAny_binaryOp_repeat_ref (T := "tuple") (U := "int") (by decide) ⟨_, ho, rfl⟩ (fun s' => typeIs_int s' 0 t) noFill_tuple_mul F.fills_int_mul F.slot_int_rmul repeat_tuple F.slot_int_index.lookup
    (call_meets F.slot_int_rmul (typeIs_int s 0 t) F.entry_int_rmul (F.args_int_rmul_2 _ _) (int_rmul_tuple 0 t l its.toArray n dd sl)
      ⟨ho, rfl, ⟨_, ho, rfl⟩, call_meets F.slot_tuple_mul ⟨_, ho, rfl⟩ F.entry_tuple_mul (F.args_tuple_mul_2 _ _) (tuple_mul0 l its.toArray n dd sl t c1) ⟨ho, ?_⟩⟩)
  refine ⟨.ref s.heap.objs.size, _, I.laid (t' := s.toks) (o := .tup []) (fun b ob q => Heap.get?_push_of_some _ q) (Nat.le_refl _) ?_, rfl, q _ (I.hok.fresh (Nat.le_refl _))⟩
  exact ⟨Nat.zero_le _, [], .nil, IsTup.new _ _⟩
theorem mul_ok : OpR X (binaryOp .Mult) (r2Of X.K opMul) := by
  intro pins s σ H x y v u Q I rx ry h
  obtain ⟨F, d, e, res, hx, hy, hg, hq⟩ := h
  cases d <;> cases e <;> try (simp [opMul] at hg; done)
  · cases hx.int; cases hy.int
    obtain ⟨h1, rfl⟩ := gd_some hg
    refine op_mul pins s σ H _ _ v u Q I rx ry ⟨_, _, rfl, rfl, ?_, hq _ _ (.same (.int _))⟩
    simp only [Bool.or_eq_true, decide_eq_true_eq] at h1
    unfold CMul
    omega
  · obtain ⟨a, vs, rfl, ha, da⟩ := hx.lst
    cases hy.int
    obtain ⟨h1, rfl⟩ := gd_some hg
    simp only [Bool.and_eq_true, decide_eq_true_eq] at h1
    exact op_rep pins s σ H _ _ v u Q I rx ry ⟨a, _, vs, rfl, rfl, ha, by omega, by omega, by rw [da.length]; simpa [lim_eq] using h1.2, fun p hp => hq _ _ (.lst hp (da.rep _))⟩
  · obtain ⟨a, vs, rfl, ha, da⟩ := hx.tup
    cases hy.int
    rename_i ds k
    simp only [opMul] at hg
    split at hg
    · rename_i hc
      obtain ⟨h1, rfl⟩ := gd_some hg
      cases rx
      refine op_repS I ry ha (by simpa using h1) ?_ (hq _ _ (.same ?_))
      · rcases hc with hc | hc
        · left
          have : ds = [] := by simpa using hc
          subst this
          cases da; rfl
        · exact .inr hc
      · cases hx with
        | sh hx => exact hx
    · rename_i hc
      split at hg
      · rename_i h0
        subst h0
        cases hg
        cases rx
        refine op_rep0 I ry ha (fun e => ?_) fun p hp => hq _ _ (.tup hp .nil)
        subst e
        cases da
        exact hc (.inl rfl)
      obtain ⟨h1, rfl⟩ := gd_some hg
      simp only [Bool.and_eq_true, decide_eq_true_eq] at h1
      refine op_repT pins s σ H _ _ v u Q I rx ry ⟨a, _, vs, rfl, rfl, ha, ?_, h1.1.1, h1.1.2, by rw [da.length]; exact h1.2, fun p hp => hq _ _ (.tup hp (da.rep _))⟩
      intro e
      subst e
      cases da
      exact hc (.inl rfl)
def opOk : Op → Operator → Bool
  | .add, .Add => true
  | .sub, .Sub => true
  | .mul, .Mult => true
  | .fdiv, .FloorDiv => true
  | .mod, .Mod => true
  | .pow, .Pow => true
  | _, _ => false
theorem bin_ok {o : Op} {p : Operator} (h : opOk o p = true) : OpR X (binaryOp p) (r2Of X.K (opBin o)) := by
  cases o <;> cases p <;> first | (cases h; done) | exact add_ok | exact sub_ok | exact mul_ok | exact fdiv_ok | exact mod_ok | exact pow_ok
/-! ### comparisons -/
def rCOf (K : PySem.W.Frag) (g : D → D → Option Bool) : R2 := fun x y H Q => ∃ F d e b, Dat1 K F H x d ∧ Dat1 K F H y e ∧ g d e = some b ∧ Q (.bl b) H
theorem okEq_iff {d : D} : okEq d = true ↔ d.plain = true ∧ d.depth ≤ 64 := by
  unfold okEq
  simp
theorem differ_lists {a b : D} (h : lensDiffer a b = true) : ∃ xs ys, a = .list xs ∧ b = .list ys ∧ xs.length ≠ ys.length := by
  unfold lensDiffer at h
  split at h
  · exact ⟨_, _, rfl, rfl, by simpa using h⟩
  · cases h
theorem Dat1.isl {pins : List (Addr × Obj)} {s : Shared} {v : V} {xs : List D} {u : Value} (I : Inv X pins σ H s) (h : Dat1 X.K F H v (.list xs)) (r : RelV v u) : ∃ a its, u = .ref a ∧ s.heap.IsList a its ∧ its.size = xs.length := by
  obtain ⟨a, vs, rfl, ha, da⟩ := h.lst
  cases r
  obtain ⟨its, rv, p, _⟩ := I.list (SqL.of ha)
  exact ⟨a, _, rfl, p.isList, by rw [List.size_toArray, ← rv.length, da.length]⟩
theorem eq_ok {k : Nat} (hr : Room k X.A) : OpR X (compareOp .Eq) (rCOf X.K opEq) := by
  intro pins s σ H x y v u Q I rx ry h
  obtain ⟨F, d, e, b, hx, hy, hg, hq⟩ := h
  unfold opEq at hg
  have hu := hr.un
  split at hg
  · rename_i hd
    obtain ⟨xs, ys, rfl, rfl, hl⟩ := differ_lists hd
    cases hg
    obtain ⟨a, its, rfl, p1, z1⟩ := hx.isl I rx
    obtain ⟨c, its2, rfl, p2, z2⟩ := hy.isl I ry
    exact SeqAt.RcAt.lists_lengths p1 p2 (by simp [z1, z2, hl]) (by omega) X.prog X.w X.xe _ ⟨.bl _, H, I, rfl, hq⟩
  · obtain ⟨h1, rfl⟩ := gd_some hg
    simp only [Bool.and_eq_true, okEq_iff] at h1
    obtain ⟨as, r1⟩ := hx.reads I h1.1.1 rx
    obtain ⟨bs, r2⟩ := hy.reads I h1.2.1 ry
    exact SeqAt.eq_plain r1 r2 h1.1.1 h1.2.1 (by omega) ⟨.bl _, H, I, rfl, hq⟩
theorem ne_ok {k : Nat} (hr : Room k X.A) : OpR X (compareOp .NotEq) (rCOf X.K fun a b => (opEq a b).map not) := by
  intro pins s σ H x y v u Q I rx ry h
  obtain ⟨F, d, e, b, hx, hy, hg, hq⟩ := h
  simp only [Option.map_eq_some_iff] at hg
  obtain ⟨c, hg, rfl⟩ := hg
  unfold opEq at hg
  have hu := hr.un
  split at hg
  · rename_i hd
    obtain ⟨xs, ys, rfl, rfl, hl⟩ := differ_lists hd
    cases hg
    obtain ⟨a, its, rfl, p1, z1⟩ := hx.isl I rx
    obtain ⟨c, its2, rfl, p2, z2⟩ := hy.isl I ry
    exact SeqAt.RcNeAt.lists_lengths p1 p2 (by simp [z1, z2, hl]) (by omega) X.prog X.w X.xe _ ⟨.bl _, H, I, rfl, hq⟩
  · obtain ⟨h1, rfl⟩ := gd_some hg
    simp only [Bool.and_eq_true, okEq_iff] at h1
    obtain ⟨as, r1⟩ := hx.reads I h1.1.1 rx
    obtain ⟨bs, r2⟩ := hy.reads I h1.2.1 ry
    exact SeqAt.ne_plain r1 r2 h1.1.1 h1.2.1 (by omega) ⟨.bl _, H, I, rfl, hq⟩
theorem isNone_iff {d : D} : isNone d = false ↔ d ≠ .none := by cases d <;> simp [isNone]
theorem lt_ok {k : Nat} (hr : Room k X.A) : OpR X (compareOp .Lt) (rCOf X.K opLt) := by
  intro pins s σ H x y v u Q I rx ry h
  obtain ⟨F, d, e, b, hx, hy, hg, hq⟩ := h
  have hu := hr.un
  unfold opLt at hg
  split at hg
  · cases hx.int; cases hy.int; cases hg
    exact op_lt pins s σ H _ _ v u Q I rx ry ⟨_, _, rfl, rfl, hq⟩
  · obtain ⟨h1, rfl⟩ := gd_some hg
    simp only [okLt, Bool.and_eq_true, decide_eq_true_eq, Bool.not_eq_true', isNone_iff] at h1
    obtain ⟨⟨⟨⟨p1, p2⟩, h1⟩, h2⟩, h3⟩ := h1
    obtain ⟨as, r1⟩ := hx.reads I p1 rx
    obtain ⟨bs, r2⟩ := hy.reads I p2 ry
    exact W.lt_data r1 r2 h1 h3 (by omega) ⟨.bl _, H, I, rfl, hq⟩
theorem le_ok {k : Nat} (hr : Room k X.A) : OpR X (compareOp .LtE) (rCOf X.K opLe) := by
  intro pins s σ H x y v u Q I rx ry h
  obtain ⟨F, d, e, b, hx, hy, hg, hq⟩ := h
  have hu := hr.un
  unfold opLe at hg
  split at hg
  · cases hx.int; cases hy.int; cases hg
    exact op_le pins s σ H _ _ v u Q I rx ry ⟨_, _, rfl, rfl, hq⟩
  · obtain ⟨h1, rfl⟩ := gd_some hg
    simp only [okLt, Bool.and_eq_true, decide_eq_true_eq, Bool.not_eq_true', isNone_iff] at h1
    obtain ⟨⟨⟨⟨p1, p2⟩, h1⟩, h2⟩, h3⟩ := h1
    obtain ⟨as, r1⟩ := hx.reads I p1 rx
    obtain ⟨bs, r2⟩ := hy.reads I p2 ry
    exact W.le_data r1 r2 h1 h3 (by omega) ⟨.bl _, H, I, rfl, hq⟩
theorem gt_ok : OpR X (compareOp .Gt) (rCOf X.K opGt) := by
  intro pins s σ H x y v u Q I rx ry h
  obtain ⟨F, d, e, b, hx, hy, hg, hq⟩ := h
  unfold opGt at hg
  split at hg
  · cases hx.int; cases hy.int; cases hg
    exact op_gt pins s σ H _ _ v u Q I rx ry ⟨_, _, rfl, rfl, hq⟩
  · cases hg
theorem ge_ok : OpR X (compareOp .GtE) (rCOf X.K opGe) := by
  intro pins s σ H x y v u Q I rx ry h
  obtain ⟨F, d, e, b, hx, hy, hg, hq⟩ := h
  unfold opGe at hg
  split at hg
  · cases hx.int; cases hy.int; cases hg
    exact op_ge pins s σ H _ _ v u Q I rx ry ⟨_, _, rfl, rfl, hq⟩
  · cases hg
theorem in_ok {k : Nat} (hr : Room k X.A) : OpR X (compareOp .In) (rCOf X.K opIn) := by
  intro pins s σ H x y v u Q I rx ry h
  obtain ⟨F, d, e, b, hx, hy, hg, hq⟩ := h
  simp only [opIn, Option.bind_eq_some_iff] at hg
  obtain ⟨xs, hs, hg⟩ := hg
  obtain ⟨h1, rfl⟩ := gd_some hg
  simp only [Bool.and_eq_true, okEq_iff] at h1
  have hu := hr.un
  obtain ⟨as, r1⟩ := hx.reads I h1.1.1 rx
  cases e with
  | list ys =>
    cases hs
    obtain ⟨bs, r2⟩ := hy.reads I (by simpa [PyData.plain] using h1.2) ry
    exact SeqAt.in_list_data r2 r1 h1.2 h1.1.1 (by omega) ⟨.bl _, H, I, rfl, hq⟩
  | tuple ys =>
    cases hs
    obtain ⟨bs, r2⟩ := hy.reads I (by simpa [PyData.plain] using h1.2) ry
    exact SeqAt.in_tuple_data r2 r1 h1.2 h1.1.1 (by omega) ⟨.bl _, H, I, rfl, hq⟩
  | none => cases hs
  | bool b => cases hs
  | int i => cases hs
  | str x => cases hs
  | dict k => cases hs
theorem notin_ok {k : Nat} (hr : Room k X.A) : OpR X (compareOp .NotIn) (rCOf X.K fun a b => (opIn a b).map not) := by
  intro pins s σ H x y v u Q I rx ry h
  obtain ⟨F, d, e, b, hx, hy, hg, hq⟩ := h
  simp only [opIn, Option.map_eq_some_iff, Option.bind_eq_some_iff] at hg
  obtain ⟨c, ⟨xs, hs, hg⟩, rfl⟩ := hg
  obtain ⟨h1, rfl⟩ := gd_some hg
  simp only [Bool.and_eq_true, okEq_iff] at h1
  have hu := hr.un
  obtain ⟨as, r1⟩ := hx.reads I h1.1.1 rx
  cases e with
  | list ys =>
    cases hs
    obtain ⟨bs, r2⟩ := hy.reads I (by simpa [PyData.plain] using h1.2) ry
    exact SeqAt.notIn_list_data r2 r1 h1.2 h1.1.1 (by omega) ⟨.bl _, H, I, rfl, hq⟩
  | tuple ys =>
    cases hs
    obtain ⟨bs, r2⟩ := hy.reads I (by simpa [PyData.plain] using h1.2) ry
    exact SeqAt.notIn_tuple_data r2 r1 h1.2 h1.1.1 (by omega) ⟨.bl _, H, I, rfl, hq⟩
  | none => cases hs
  | bool b => cases hs
  | int i => cases hs
  | str x => cases hs
  | dict k => cases hs
theorem isN_of {v : V} {d : D} (h : Dat1 K F H v d) : decide (v = .non) = isNone d := by
  cases h with
  | sh h => cases h <;> simp [isNone]
  | ol _ _ => simp [isNone]
  | od _ _ _ => simp [isNone]
theorem isN_ok : OpR X (compareOp .Is) (rCOf X.K isD) := by
  intro pins s σ H x y v u Q I rx ry h
  obtain ⟨F, d, e, b, hx, hy, hg, hq⟩ := h
  cases e with
  | none =>
    cases (show some (isNone d) = some b from hg)
    have ey : y = .non := by have := isN_of hy; simpa [isNone] using this
    exact op_isN pins s σ H _ _ v u Q I rx ry ⟨ey, by rw [isN_of hx]; exact hq⟩
  | bool c =>
    cases d with
    | bool a =>
      cases (show some (a == c) = some b from hg)
      exact op_isBl pins s σ H _ _ v u Q I rx ry ⟨a, c, hx.bl, hy.bl, by rw [show decide (a = c) = (a == c) from rfl]; exact hq⟩
    | _ => cases hg
  | _ => cases hg
theorem notN_ok : OpR X (compareOp .IsNot) (rCOf X.K fun a b => (isD a b).map not) := by
  intro pins s σ H x y v u Q I rx ry h
  obtain ⟨F, d, e, b, hx, hy, hg, hq⟩ := h
  cases e with
  | none =>
    cases (show some (!isNone d) = some b from hg)
    have ey : y = .non := by have := isN_of hy; simpa [isNone] using this
    exact op_notN pins s σ H _ _ v u Q I rx ry ⟨ey, by rw [isN_of hx]; exact hq⟩
  | bool c =>
    cases d with
    | bool a =>
      cases (show some (!(a == c)) = some b from hg)
      exact op_notBl pins s σ H _ _ v u Q I rx ry ⟨a, c, hx.bl, hy.bl, by rw [show decide (a = c) = (a == c) from rfl]; exact hq⟩
    | _ => cases hg
  | _ => cases hg
def cpOk : Cp → CmpOp → Bool
  | .eq, .Eq => true
  | .ne, .NotEq => true
  | .lt, .Lt => true
  | .le, .LtE => true
  | .gt, .Gt => true
  | .ge, .GtE => true
  | .isin, .In => true
  | .notin, .NotIn => true
  | .isN, .Is => true
  | .notN, .IsNot => true
  | _, _ => false
theorem cmp_ok {k : Nat} (hr : Room k X.A) {o : Cp} {p : CmpOp} (h : cpOk o p = true) : OpR X (compareOp p) (rCOf X.K (opCmp o)) := by
  cases o <;> cases p <;> first | (cases h; done) | exact eq_ok hr | exact ne_ok hr | exact lt_ok hr | exact le_ok hr | exact gt_ok | exact ge_ok | exact in_ok hr | exact notin_ok hr | exact isN_ok | exact notN_ok
end
end MI
namespace MI
open PySem PySem.Spec PyProof.Rows L2
variable {K : PySem.W.Frag} {F F' : Fz} {H H' : Hp} {O O' : Fz} {σ : L2.St} {ρ ρ' : Env}
/-! ### an item, a cut -/
theorem Dats.atI {vs : List V} {ds : List D} {i : Int} {d : D} (h : Dats K F H vs ds) (e : atD ds i = some d) : ∃ v, L2.atI vs i = some v ∧ Dat K F H v d := by
  unfold atD at e
  rw [Option.bind_eq_some_iff] at e
  obtain ⟨j, hj, e⟩ := e
  obtain ⟨v, hv, hd⟩ := h.get e
  refine ⟨v, ?_, hd⟩
  unfold L2.atI
  rw [h.length]
  have q : L2.ixN ds.length i = some j := hj
  rw [q]
  exact hv
section
variable {X : Cx}
theorem idx_ok : IxR X (r2Of X.K opIdx) := by
  intro value slice pins s σ H x y v u Q I rx ry h hsub
  obtain ⟨F, d, e, res, hx, hy, hg, hq⟩ := h
  cases d <;> cases e <;> try (simp [opIdx] at hg; done)
  · obtain ⟨a, vs, rfl, ha, da⟩ := hx.lst
    cases hy.int
    simp only [opIdx, Option.map_eq_some_iff] at hg
    obtain ⟨c, hc, rfl⟩ := hg
    obtain ⟨w, hw, hd⟩ := da.atI hc
    exact ix_list value slice pins s σ H _ _ v u Q I rx ry ⟨a, vs, _, w, rfl, rfl, SqL.of ha, hw, hq _ _ (.same hd)⟩ hsub
  · obtain ⟨a, vs, rfl, ha, da⟩ := hx.tup
    cases hy.int
    simp only [opIdx, Option.map_eq_some_iff] at hg
    obtain ⟨c, hc, rfl⟩ := hg
    obtain ⟨w, hw, hd⟩ := da.atI hc
    exact ix_tup value slice pins s σ H _ _ v u Q I rx ry ⟨a, vs, _, w, rfl, rfl, ha, hw, hq _ _ (.same hd)⟩ hsub
theorem slIx_eq (n d : Nat) (o : Option Int) : slIx n d o = HT.sIx n d o := by cases o <;> rfl
theorem Dats.cut {vs : List V} {ds : List D} (h : Dats K F H vs ds) (lo hi : Option Int) : Dats K F H (cutV vs lo hi) (cutL ds lo hi) := by
  unfold cutV cutL
  rw [slIx_eq, slIx_eq, h.length]
  exact (h.drop _).take _
theorem cut_whole {α : Type} (xs : List α) {lo hi : Option Int} (h : HT.sIx xs.length 0 lo = 0 ∧ HT.sIx xs.length xs.length hi = xs.length) : cutL xs lo hi = xs := by
  unfold cutL
  rw [slIx_eq, slIx_eq, h.1, h.2]
  simp
def rSlOf (K : PySem.W.Frag) : V → Option Int → Option Int → Hp → VK → Prop := fun x lo hi H Q => ∃ F d res, Dat2 K F H x d ∧ opSl d lo hi = some res ∧ ∀ v H', NewR K F H v H' res → Q v H'
theorem Dats.ofInts : ∀ ns : List Int, Dats K F H (ns.map V.int) (ns.map .int)
  | [] => .nil
  | n :: ns => .cons (.int n) (Dats.ofInts ns)
theorem sl_ok : SlR X (rSlOf X.K) := by
  intro pins s σ H x v vl vu lo hi sl Q I rx hs pl pu h
  obtain ⟨F, d, res, hx, hg, hq⟩ := h
  cases d <;> try (simp [opSl] at hg; done)
  · rename_i ds
    have hl : ∃ a vs, x = .ref a ∧ SqL X.K H a vs ∧ Dats X.K F H vs ds := by
      cases hx with
      | sh hx => obtain ⟨a, vs, rfl, ha, da⟩ := hx.lst; exact ⟨a, vs, rfl, SqL.of ha, da⟩
      | sc hx => exact ⟨_, _, rfl, hx, .ofInts _⟩
    obtain ⟨a, vs, rfl, ha, da⟩ := hl
    cases hg
    exact sl_list pins s σ H _ v vl vu lo hi sl Q I rx hs pl pu ⟨a, vs, rfl, ha, fun p hp => hq _ _ (.lst hp (da.cut lo hi))⟩
  · rename_i ds
    have hl : Dat1 X.K F H x (.tuple ds) := by
      cases hx with
      | sh hx => exact hx
    obtain ⟨a, vs, rfl, ha, da⟩ := hl.tup
    cases hg
    refine sl_tupA pins s σ H _ v vl vu lo hi sl Q I rx hs pl pu ⟨a, vs, rfl, ha, fun hw => ?_, fun _ p hp => hq _ _ (.tup hp (da.cut lo hi))⟩
    rw [da.length] at hw
    refine hq _ _ (.same ?_)
    rw [cut_whole _ hw]
    cases hl with
    | sh hl => exact hl
/-! ### built-ins -/
inductive Dat1s (K : PySem.W.Frag) (F : Fz) (H : Hp) : List V → List D → Prop
  | nil : Dat1s K F H [] []
  | cons {v : V} {vs : List V} {d : D} {ds : List D} : Dat1 K F H v d → Dat1s K F H vs ds → Dat1s K F H (v :: vs) (d :: ds)
def rBOf (K : PySem.W.Frag) (g : List D → Option R) : List V → Hp → VK → Prop := fun vs H Q => ∃ F ds res, Dat1s K F H vs ds ∧ g ds = some res ∧ ∀ v H', NewR K F H v H' res → Q v H'
def rB1 (K : PySem.W.Frag) (g : D → Option R) : List V → Hp → VK → Prop := fun vs H Q => ∃ F v d res, vs = [v] ∧ Dat1 K F H v d ∧ g d = some res ∧ ∀ v H', NewR K F H v H' res → Q v H'
theorem len_ok : CallR X (.builtin "len") (rB1 X.K lenD) := by
  intro pins s σ H vs us Q I r h
  obtain ⟨F, x, d, res, rfl, hx, hg, hq⟩ := h
  cases d <;> try (simp [lenD] at hg; done)
  · cases hx.str
    obtain ⟨h1, rfl⟩ := gd_some hg
    exact call_len pins s σ H _ us Q I r ⟨_, _, rfl, ⟨by simpa [lim_eq] using h1, rfl⟩, hq _ _ (.same (.int _))⟩
  · obtain ⟨a, vs, rfl, ha, da⟩ := hx.lst
    cases hg
    exact call_len pins s σ H _ us Q I r ⟨_, _, rfl, .inl ⟨_, SqL.of ha, rfl⟩, by rw [da.length]; exact hq _ _ (.same (.int _))⟩
  · obtain ⟨a, vs, rfl, ha, da⟩ := hx.tup
    cases hg
    exact call_len pins s σ H _ us Q I r ⟨_, _, rfl, .inr ⟨_, ha, rfl⟩, by rw [da.length]; exact hq _ _ (.same (.int _))⟩
  · cases hg
    rename_i ds
    have hl : ∃ a kvs, x = .ref a ∧ H a = some (.dK kvs) ∧ kvs.length = ds.length := by
      cases hx with
      | sh hx => cases hx with
        | dK f e t u => exact ⟨_, _, rfl, e, by simpa using t.length⟩
      | od e t u => exact ⟨_, _, rfl, e, by simpa using t.length⟩
    obtain ⟨a, kvs, rfl, ha, e⟩ := hl
    refine call_lenD pins s σ H _ us Q I r ⟨a, kvs, rfl, ha, ?_⟩
    rw [e]
    exact hq _ _ (.same (.int _))
theorem abs_ok : CallR X (.builtin "abs") (rB1 X.K absD) := by
  intro pins s σ H vs us Q I r h
  obtain ⟨F, x, d, res, rfl, hx, hg, hq⟩ := h
  cases d <;> try (simp [absD] at hg; done)
  cases hx.int
  cases hg
  exact call_abs pins s σ H _ us Q I r ⟨_, rfl, hq _ _ (.same (.int _))⟩
theorem int_ok1 : CallR X (.type "int") (rB1 X.K intD) := by
  intro pins s σ H vs us Q I r h
  obtain ⟨F, x, d, res, rfl, hx, hg, hq⟩ := h
  cases d <;> try (simp [intD] at hg; done)
  · cases hx.bl
    cases hg
    exact call_int1 pins s σ H _ us Q I r (.inr ⟨_, rfl, hq _ _ (.same (.int _))⟩)
  · cases hx.int
    cases hg
    exact call_int1 pins s σ H _ us Q I r (.inl ⟨_, rfl, hq _ _ (.same (.int _))⟩)
theorem bool_ok1 : CallR X (.type "bool") (rB1 X.K boolD) := by
  intro pins s σ H vs us Q I r h
  obtain ⟨F, x, d, res, rfl, hx, hg, hq⟩ := h
  cases d <;> try (simp [boolD] at hg; done)
  · cases hx.bl
    cases hg
    exact call_bool1 pins s σ H _ us Q I r (.inr ⟨_, rfl, hq _ _ (.same (.bl _))⟩)
  · cases hx.int
    cases hg
    exact call_bool1 pins s σ H _ us Q I r (.inl ⟨_, rfl, hq _ _ (.same (.bl _))⟩)
theorem str_ok1 : CallR X (.type "str") (rB1 X.K strD) := by
  intro pins s σ H vs us Q I r h
  obtain ⟨F, x, d, res, rfl, hx, hg, hq⟩ := h
  cases d <;> try (simp [strD] at hg; done)
  cases hx.int
  obtain ⟨h1, rfl⟩ := gd_some hg
  exact call_str_int pins s σ H _ us Q I r ⟨_, rfl, by simpa using h1, hq _ _ (.same (.str _))⟩
theorem list_ok1 : CallR X (.type "list") (rB1 X.K listD) := by
  intro pins s σ H vs us Q I r h
  obtain ⟨F, x, d, res, rfl, hx, hg, hq⟩ := h
  simp only [listD, Option.map_eq_some_iff] at hg
  obtain ⟨ds, hs, rfl⟩ := hg
  obtain ⟨a, vs, rfl, ha, da⟩ := hx.seq hs
  exact call_list_of pins s σ H _ us Q I r ⟨a, vs, rfl, ha, fun l hl => hq _ _ (.lst hl da)⟩
theorem tuple_ok1 : CallR X (.type "tuple") (rB1 X.K tupleD) := by
  intro pins s σ H vs us Q I r h
  obtain ⟨F, x, d, res, rfl, hx, hg, hq⟩ := h
  simp only [tupleD, Option.map_eq_some_iff] at hg
  obtain ⟨ds, hs, rfl⟩ := hg
  cases d <;> try (cases hs; done)
  · cases hs
    obtain ⟨a, vs, rfl, ha, da⟩ := hx.lst
    exact call_tuple_of pins s σ H _ us Q I r ⟨a, vs, rfl, .inl ⟨SqL.of ha, fun l hl => hq _ _ (.tup hl da)⟩⟩
  · cases hs
    obtain ⟨a, vs, rfl, ha, da⟩ := hx.tup
    refine call_tuple_of pins s σ H _ us Q I r ⟨a, vs, rfl, .inr ⟨ha, hq _ _ (.same ?_)⟩⟩
    cases hx with
    | sh hx => exact hx
theorem ints_of : ∀ {ds : List D} {ns : List Int} {vs : List V}, intsOf ds = some ns → Dats K F H vs ds → vs = ns.map V.int
  | [], ns, vs, e, h => by cases e; cases h; rfl
  | d :: ds, ns, vs, e, h => by
    cases d <;> try (simp [intsOf] at e; done)
    simp only [intsOf, Option.map_eq_some_iff] at e
    obtain ⟨ms, e, rfl⟩ := e
    cases h with
    | cons h1 h2 =>
      cases h1
      rw [ints_of e h2]
      rfl
theorem bools_of : ∀ {ds : List D} {ns : List Bool} {vs : List V}, boolsOf ds = some ns → Dats K F H vs ds → vs = ns.map V.bl
  | [], ns, vs, e, h => by cases e; cases h; rfl
  | d :: ds, ns, vs, e, h => by
    cases d <;> try (simp [boolsOf] at e; done)
    simp only [boolsOf, Option.map_eq_some_iff] at e
    obtain ⟨ms, e, rfl⟩ := e
    cases h with
    | cons h1 h2 =>
      cases h1
      rw [bools_of e h2]
      rfl
theorem any_ok (hc : X.calm = true) : CallR X (.builtin "any") (rB1 X.K anyD) := by
  intro pins s σ H vs us Q I r h
  obtain ⟨F, x, d, res, rfl, hx, hg, hq⟩ := h
  cases d <;> try (simp [anyD] at hg; done)
  obtain ⟨a, vs, rfl, ha, da⟩ := hx.lst
  simp only [anyD, Option.map_eq_some_iff] at hg
  obtain ⟨bs, e, rfl⟩ := hg
  cases bools_of e da
  exact cr_any hc pins s σ H _ us Q I r ⟨a, bs, rfl, SqL.of ha, hq _ _ (.same (.bl _))⟩
theorem all_ok (hc : X.calm = true) : CallR X (.builtin "all") (rB1 X.K allD) := by
  intro pins s σ H vs us Q I r h
  obtain ⟨F, x, d, res, rfl, hx, hg, hq⟩ := h
  cases d <;> try (simp [allD] at hg; done)
  obtain ⟨a, vs, rfl, ha, da⟩ := hx.lst
  simp only [allD, Option.map_eq_some_iff] at hg
  obtain ⟨bs, e, rfl⟩ := hg
  cases bools_of e da
  exact cr_all hc pins s σ H _ us Q I r ⟨a, bs, rfl, SqL.of ha, hq _ _ (.same (.bl _))⟩
def rB2 (K : PySem.W.Frag) (g : D → D → Option R) : List V → Hp → VK → Prop := fun vs H Q => ∃ F v w d e res, vs = [v, w] ∧ Dat1 K F H v d ∧ Dat1 K F H w e ∧ g d e = some res ∧ ∀ v H', NewR K F H v H' res → Q v H'
theorem max2_ok (hc : X.calm = true) : CallR X (.builtin "max") (rB2 X.K max2) := by
  intro pins s σ H vs us Q I r h
  obtain ⟨F, x, y, d, e, res, rfl, hx, hy, hg, hq⟩ := h
  cases d <;> cases e <;> try (simp [max2] at hg; done)
  cases hx.int; cases hy.int
  cases hg
  exact call_max2 hc pins s σ H _ us Q I r ⟨_, _, rfl, hq _ _ (.same (.int _))⟩
theorem min2_ok (hc : X.calm = true) : CallR X (.builtin "min") (rB2 X.K min2) := by
  intro pins s σ H vs us Q I r h
  obtain ⟨F, x, y, d, e, res, rfl, hx, hy, hg, hq⟩ := h
  cases d <;> cases e <;> try (simp [min2] at hg; done)
  cases hx.int; cases hy.int
  cases hg
  exact call_min2 hc pins s σ H _ us Q I r ⟨_, _, rfl, hq _ _ (.same (.int _))⟩
/-! ### the least, the greatest -/
theorem not_none {d : D} (h : isNone d = false) : d ≠ .none := isNone_iff.mp h
theorem alikeAll_of {xs : List D} (h : allAlike xs = true) : W.AlikeAll xs := by
  unfold allAlike at h
  simp only [List.all_eq_true, Bool.and_eq_true, Bool.not_eq_true'] at h
  exact ⟨fun x hx y hy => (h x hx).2 y hy, fun x hx => not_none (h x hx).1⟩
theorem best_dat {pins : List (Addr × Obj)} {s : Shared} {ds : List D} {vs : List V} {its : List Value} (I : Inv X pins σ H s) (da : Dats X.K F H vs ds) (rv : Vals vs its) (hp : PyData.plainAll ds = true) {i : Nat} {u : Value} {h' : Heap} {m : D} {bs : List Addr}
    (hu : its[i]? = some u) (hr : Reads h' u m bs) (hk : ∀ b o, s.heap.get? b = some o → h'.get? b = some o) : ∃ v, RelV v u ∧ Dat X.K F H v m := by
  have hi : i < vs.length := by rw [rv.length]; exact (List.getElem?_eq_some_iff.mp hu).1
  obtain ⟨v, hv⟩ : ∃ v, vs[i]? = some v := ⟨_, List.getElem?_eq_getElem hi⟩
  obtain ⟨u', hu', ru⟩ := rv.get hv
  rw [hu] at hu'
  cases hu'
  obtain ⟨d, hd, dd⟩ := da.get' hv
  have hpl : d.plain = true := by
    have : ∀ (l : List D), PyData.plainAll l = true → ∀ x ∈ l, x.plain = true := by
      intro l
      induction l with
      | nil => intro _ x hx; cases hx
      | cons y l ih =>
        intro h x hx
        have h' : y.plain = true ∧ PyData.plainAll l = true := by simpa [PyData.plainAll] using h
        rcases List.mem_cons.mp hx with rfl | hx
        · exact h'.1
        · exact ih h'.2 x hx
    exact this ds hp d (List.mem_of_getElem? hd)
  obtain ⟨as, r1⟩ := Dat.reads I d v u dd hpl ru
  have e := SeqAt.plain_unique d m u as bs hpl (PyProof.Rows.Reads.keeps hk r1) hr
  subst e
  exact ⟨v, ru, dd⟩
theorem okOrd_iff {xs : List D} : okOrd xs = true ↔ allAlike xs = true ∧ PyData.plainAll xs = true ∧ PyData.depthAll xs ≤ 64 := by
  unfold okOrd
  simp [and_assoc]
theorem max_ok {k : Nat} (hr : Room k X.A) : CallR X (.builtin "max") (rB1 X.K maxD) := by
  intro pins s σ H vs us Q I r h
  obtain ⟨F, x, d, res, rfl, hx, hg, hq⟩ := h
  have hu := hr.un
  simp only [maxD, Option.bind_eq_some_iff] at hg
  obtain ⟨ds, hs, hg⟩ := hg
  cases ds with
  | nil => cases hg
  | cons y ys =>
    obtain ⟨h1, rfl⟩ := gd_some hg
    obtain ⟨h1, h2, h3⟩ := okOrd_iff.mp h1
    cases d <;> try (cases hs; done)
    · cases hs
      obtain ⟨a, ws, rfl, ha, da⟩ := hx.lst
      obtain ⟨its, rv, hl, _⟩ := I.list (SqL.of ha)
      obtain ⟨as, rr⟩ := Dats.reads I _ _ its da h2 rv
      rw [Vals.ref1 r]
      refine W.max_list_data hr.hd hl.isList rr (alikeAll_of h1) (by omega) fun i v h' tk bs hv hr' hk => ?_
      obtain ⟨w, rw', dw⟩ := best_dat (i := i) I da rv h2 (by simpa using hv) hr' hk
      exact ⟨w, H, I.kept hk, rw', hq _ _ (.same dw)⟩
    · cases hs
      obtain ⟨a, ws, rfl, ha, da⟩ := hx.tup
      obtain ⟨its, rv, hl, _⟩ := I.tuple ha
      obtain ⟨as, rr⟩ := Dats.reads I _ _ its da h2 rv
      rw [Vals.ref1 r]
      refine W.max_tuple_data hr.hd hl rr (alikeAll_of h1) (by omega) fun i v h' tk bs hv hr' hk => ?_
      obtain ⟨w, rw', dw⟩ := best_dat (i := i) I da rv h2 (by simpa using hv) hr' hk
      exact ⟨w, H, I.kept hk, rw', hq _ _ (.same dw)⟩
theorem min_ok {k : Nat} (hr : Room k X.A) : CallR X (.builtin "min") (rB1 X.K minD) := by
  intro pins s σ H vs us Q I r h
  obtain ⟨F, x, d, res, rfl, hx, hg, hq⟩ := h
  have hu := hr.un
  simp only [minD, Option.bind_eq_some_iff] at hg
  obtain ⟨ds, hs, hg⟩ := hg
  cases ds with
  | nil => cases hg
  | cons y ys =>
    obtain ⟨h1, rfl⟩ := gd_some hg
    obtain ⟨h1, h2, h3⟩ := okOrd_iff.mp h1
    cases d <;> try (cases hs; done)
    · cases hs
      obtain ⟨a, ws, rfl, ha, da⟩ := hx.lst
      obtain ⟨its, rv, hl, _⟩ := I.list (SqL.of ha)
      obtain ⟨as, rr⟩ := Dats.reads I _ _ its da h2 rv
      rw [Vals.ref1 r]
      refine W.min_list_data hr.hd hl.isList rr (alikeAll_of h1) (by omega) fun i v h' tk bs hv hr' hk => ?_
      obtain ⟨w, rw', dw⟩ := best_dat (i := i) I da rv h2 (by simpa using hv) hr' hk
      exact ⟨w, H, I.kept hk, rw', hq _ _ (.same dw)⟩
    · cases hs
      obtain ⟨a, ws, rfl, ha, da⟩ := hx.tup
      obtain ⟨its, rv, hl, _⟩ := I.tuple ha
      obtain ⟨as, rr⟩ := Dats.reads I _ _ its da h2 rv
      rw [Vals.ref1 r]
      refine W.min_tuple_data hr.hd hl rr (alikeAll_of h1) (by omega) fun i v h' tk bs hv hr' hk => ?_
      obtain ⟨w, rw', dw⟩ := best_dat (i := i) I da rv h2 (by simpa using hv) hr' hk
      exact ⟨w, H, I.kept hk, rw', hq _ _ (.same dw)⟩
theorem sum_ok {k : Nat} (hr : Room k X.A) (hc : X.calm = true) : CallR X (.builtin "sum") (rB1 X.K sumD) := by
  intro pins s σ H vs us Q I r h
  obtain ⟨F, x, d, res, rfl, hx, hg, hq⟩ := h
  simp only [sumD, Option.bind_eq_some_iff, Option.map_eq_some_iff] at hg
  obtain ⟨ds, hs, ns, hn, rfl⟩ := hg
  cases d <;> try (cases hs; done)
  · cases hs
    obtain ⟨a, ws, rfl, ha, da⟩ := hx.lst
    cases ints_of hn da
    exact cr_sum hc pins s σ H _ us Q I r ⟨a, ns, rfl, SqL.of ha, hq _ _ (.same (.int _))⟩
  · cases hs
    obtain ⟨a, ws, rfl, ha, da⟩ := hx.tup
    cases ints_of hn da
    obtain ⟨its, rv, hl, _⟩ := I.tuple ha
    rw [Vals.ref1 r]
    have hi := Vals.ints rv
    obtain ⟨xs, e⟩ := hi.allInts.items
    have hn : numsOf (intItems xs).toList = ns := by rw [← e]; exact hi.numsOf
    rw [nums_intItems] at hn
    rw [e] at hl
    refine W.ktm_sumG hr.hd (show s.heap.IsTuple a (intItems xs) from hl) fun h' tk t' hk => ?_
    have eq : preSum (numAt xs) xs.size = ns.sum := by rw [preSum_eq, List.take_of_length_le (by simp), hn]
    rw [eq]
    exact ⟨.int _, H, I.kept hk, ⟨_, rfl⟩, hq _ _ (.same (.int _))⟩
/-! ### sorted -/
inductive DatIs (K : PySem.W.Frag) (F : Fz) (H : Hp) : Value → D → Prop
  | mk {u : Value} {v : V} {d : D} : RelV v u → Dat K F H v d → DatIs K F H u d
theorem eachs : ∀ {vs : List V} {us : List Value} {ds : List D}, Dats K F H vs ds → Vals vs us → W.EachIs (DatIs K F H) us ds
  | [], _, _, h, r => by cases h; cases r; exact .nil
  | v :: vs, _, _, h, r => by
    cases h with
    | cons a b => cases r with
      | cons p q => exact .cons (.mk p a) (eachs b q)
theorem eachs_back : ∀ {us : List Value} {ds : List D}, W.EachIs (DatIs K F H) us ds → ∃ vs, Vals vs us ∧ Dats K F H vs ds
  | [], _, h => by cases h; exact ⟨[], .nil, .nil⟩
  | u :: us, _, h => by
    cases h with
    | cons a b =>
      cases a with
      | mk p q =>
        obtain ⟨vs, h1, h2⟩ := eachs_back b
        exact ⟨_ :: vs, .cons p h1, .cons q h2⟩
theorem plain_mem : ∀ {l : List D}, PyData.plainAll l = true → ∀ x ∈ l, x.plain = true
  | [], _, _, h => by cases h
  | y :: l, h, x, hx => by
    have h' : y.plain = true ∧ PyData.plainAll l = true := by simpa [PyData.plainAll] using h
    rcases List.mem_cons.mp hx with rfl | hx
    · exact h'.1
    · exact plain_mem h'.2 x hx
theorem depth_mem : ∀ {l : List D}, ∀ x ∈ l, x.depth ≤ PyData.depthAll l
  | [], _, h => by cases h
  | y :: l, x, hx => by
    simp only [PyData.depthAll]
    rcases List.mem_cons.mp hx with rfl | hx
    · exact Nat.le_max_left _ _
    · exact Nat.le_trans (depth_mem x hx) (Nat.le_max_right _ _)
theorem each_reads {pins : List (Addr × Obj)} {s : Shared} (I : Inv X pins σ H s) : ∀ {us : List Value} {ds : List D}, W.EachIs (DatIs X.K F H) us ds → PyData.plainAll ds = true → W.EachIs (fun v b => ∃ as, Reads s.heap v (id b) as) us ds
  | [], _, h, _ => by cases h; exact .nil
  | u :: us, _, h, p => by
    cases h with
    | @cons _ d _ ds a b =>
      have h' : d.plain = true ∧ PyData.plainAll ds = true := by simpa [PyData.plainAll] using p
      cases a with
      | mk q q2 => exact .cons (Dat.reads I _ _ _ q2 h'.1 q) (each_reads I b h'.2)
theorem sortable_of {xs : List D} (h : okSort xs = true) : W.Sortable xs := by
  unfold okSort at h
  rw [Bool.or_eq_true] at h
  rcases h with h | h
  · refine .inl fun d hd => ?_
    have q := List.all_eq_true.mp h d hd
    split at q
    · exact ⟨_, _, rfl⟩
    · cases q
  · refine .inr fun d hd => ?_
    have q := List.all_eq_true.mp h d hd
    split at q
    · cases q
    · cases q
    · rename_i h1 h2
      exact ⟨fun e => h2 e, fun xs e => h1 xs e⟩
theorem sorted_ok {k : Nat} (hr : Room k X.A) : CallR X (.builtin "sorted") (rB1 X.K sortedD) := by
  intro pins s σ H vs us Q I r h
  obtain ⟨F, x, d, res, rfl, hx, hg, hq⟩ := h
  have hu := hr.un
  cases d <;> try (simp [sortedD] at hg; done)
  rename_i ds
  obtain ⟨h1, rfl⟩ := gd_some hg
  simp only [Bool.and_eq_true, decide_eq_true_eq, okOrd_iff] at h1
  obtain ⟨⟨⟨h1, h2, h3⟩, h4⟩, h5⟩ := h1
  obtain ⟨a, ws, rfl, ha, da⟩ := hx.lst
  obtain ⟨its, rv, hl, _⟩ := I.list (SqL.of ha)
  have ee := eachs da rv
  have er := each_reads I ee h2
  rw [Vals.ref1 r]
  have hal : W.AllAlike (ds.map id) := by
    rw [List.map_id]
    exact fun x hx y hy => (alikeAll_of h1).1 x hx y hy
  refine W.sorted_data (R := DatIs X.K F H) (enc := id) hl.isList ee er hal (by rw [List.map_id]; exact sortable_of h4) (by simpa [lim_eq] using h5) (fun b hb => ?_) fun out hlen eo => ?_
  · have := depth_mem b hb
    show X.A.units + 2 + b.depth < cLine
    omega
  · obtain ⟨vs', rv', dd'⟩ := eachs_back eo
    obtain ⟨ep, he'⟩ := PyProof.Rows.sortedAll_at s.heap its out.toArray
    have hz : vs'.length ≤ sizeLine := by rw [rv'.length, hlen]; simpa [lim_eq] using h5
    refine ⟨.ref (s.heap.objs.size + 1), upd H (s.heap.objs.size + 1) (.lst vs'), I.laid (t' := s.toks) (fun _ _ => PyProof.Rows.sortedAll_old) (Nat.le_succ _) ⟨hz, out, ep, rv', he'⟩, rfl, ?_⟩
    exact hq _ _ (.lst (I.hok.fresh (Nat.le_succ _)) dd')
/-! ### isinstance -/
def tyName : D → String
  | .none => "NoneType"
  | .bool _ => "bool"
  | .int _ => "int"
  | .str _ => "str"
  | .list _ => "list"
  | .tuple _ => "tuple"
  | .dict _ => "dict"
def tyId : Ty → String
  | .int => "int"
  | .bool => "bool"
  | .str => "str"
  | .list => "list"
  | .tuple => "tuple"
  | .dict => "dict"
def tyIn : Ty → String → Bool
  | .int, n => n == "int" || n == "bool"
  | .bool, n => n == "bool"
  | .str, n => n == "str"
  | .list, n => n == "list"
  | .tuple, n => n == "tuple"
  | .dict, n => n == "dict"
theorem Dat1.ty {v : V} {d : D} (h : Dat1 K F H v d) : TyX K H v (.type (tyName d)) := by
  cases h with
  | sh h => cases h with
    | non => exact .base .non
    | bl b => exact .base (.bl b)
    | int i => exact .base (.int i)
    | str x => exact .base (.str x)
    | lst f e t => exact .base (.lst e)
    | tup f e t => exact .base (.tup e)
    | ktup e t => obtain ⟨o, its, n, h1, h2, _⟩ := e; exact .kTuple h1 h2
    | dK f e t u => exact .base (.dK e)
  | ol e t => exact .base (.lst e)
  | od e t u => exact .base (.dK e)
theorem kit_tab (d : D) (t : Ty) : PySem.W.kitOne K (.type (tyName d)) (.type (tyId t)) = some (isTy t d) := by
  have tab : ∀ n ∈ ["NoneType", "bool", "int", "str", "list", "tuple", "dict"], kitB n (tyId t) = some (tyIn t n) := by cases t <;> decide +kernel
  have h1 : tyName d ∈ ["NoneType", "bool", "int", "str", "list", "tuple", "dict"] := by cases d <;> simp [tyName]
  have h2 : tyIn t (tyName d) = isTy t d := by cases d <;> cases t <;> rfl
  rw [← h2]
  exact kit_ty (tab _ h1)
theorem kit_any (d : D) : ∀ ts : List Ty, PySem.W.kitAny K (.type (tyName d)) (ts.map fun t => .type (tyId t)) = some (ts.any fun t => isTy t d)
  | [] => rfl
  | t :: ts => by
    rw [List.map_cons, List.any_cons]
    refine kitAny_cons (kit_tab d t) (fun h => ?_) fun h => ?_
    · rw [h, Bool.false_or]; exact kit_any d ts
    · rw [h, Bool.true_or]
end
end MI
namespace MI
open PySem PySem.Spec PyProof.Rows L2
variable {K : PySem.W.Frag} {F F' : Fz} {H H' : Hp} {O O' : Fz} {σ : L2.St} {ρ ρ' : Env}
/-! ### the judgements -/
structure PD (X : Cx) (xr : XRep) (W : WX) (e : Expr) (ev : Env → Out R) : Prop where
  run : ∃ t : TE, PE X e t ∧ ∀ F H O σ ρ Q, StI X.K F H O σ ρ → WantE X.K xr W σ F H O ρ (ev ρ) Q → t σ H Q
structure PDd (X : Cx) (xr : XRep) (W : WX) (e : Expr) (ev : Env → Out D) : Prop where
  run : ∃ t : TE, PE X e t ∧ ∀ F H O σ ρ Q, StI X.K F H O σ ρ → WantD X.K xr W σ F H O ρ (ev ρ) Q → t σ H Q
structure PDt (X : Cx) (xr : XRep) (W : WX) (e : Expr) (ev : Env → Out Bool) : Prop where
  run : ∃ t : TT, PT X e t ∧ ∀ F H O σ ρ Q, StI X.K F H O σ ρ → WantB X.K xr W σ F H O ρ (ev ρ) Q → t σ H Q
structure PDw (X : Cx) (xr : XRep) (W : WX) (e : Expr) (ev : Env → Out Bool) : Prop where
  run : ∃ t : TT, PW X e t ∧ ∀ F H O σ ρ Q, StI X.K F H O σ ρ → WantB X.K xr W σ F H O ρ (ev ρ) Q → t σ H Q
structure PDs (X : Cx) (xr : XRep) (W : WX) (es : List Expr) (ev : Env → Out (List D)) : Prop where
  run : ∃ t : TA, PA X es t ∧ ∀ F H O σ ρ Q, StI X.K F H O σ ρ → WantDs X.K xr W σ F H O ρ (ev ρ) Q → t σ H Q
inductive RepRs (K : PySem.W.Frag) (H0 : Hp) (F : Fz) (H : Hp) (O : Fz) (σ : L2.St) : List V → List R → Prop
  | nil : RepRs K H0 F H O σ [] []
  | cons {v : V} {vs : List V} {r : R} {rs : List R} : RepR K H0 F H O σ v r → RepRs K H0 F H O σ vs rs → RepRs K H0 F H O σ (v :: vs) (r :: rs)
section
variable {X : Cx} {xr : XRep} {W : WX}
theorem WantG.ex_after {α β γ δ : Type} {rep : Fz → Hp → Fz → β → α → Prop} {rep' : Fz → Hp → Fz → δ → γ → Prop} {x : Xn} {ρ2 : Env} {Q : β → Hp → Prop} {Q' : δ → Hp → Prop} (h : WantG K xr W rep σ F H O ρ (.ex x ρ2 : Out α) Q) (t : Stp F H O F' H' O') (p : Pin ρ ρ') :
    WantG K xr W rep' σ F' H' O' ρ' (.ex x ρ2 : Out γ) Q' := fun F2 H2 O2 c d S2 t2 p2 r => h F2 H2 O2 c d S2 (t.trans t2) (p.trans p2) r
theorem WantG.ex_any {α β γ δ : Type} {rep : Fz → Hp → Fz → β → α → Prop} {rep' : Fz → Hp → Fz → δ → γ → Prop} {x : Xn} {ρ2 : Env} {Q : β → Hp → Prop} {Q' : δ → Hp → Prop} (h : WantG K xr W rep σ F H O ρ (.ex x ρ2 : Out α) Q) :
    WantG K xr W rep' σ F H O ρ (.ex x ρ2 : Out γ) Q' := h
/-- SEQUENCING: what is wanted behind o, when k follows; all from the start F0 H0 O0 ρ0 -/
theorem WantG.seq {α β γ δ : Type} {rep : Fz → Hp → Fz → β → α → Prop} {rep' : Fz → Hp → Fz → δ → γ → Prop} {o : Out α} {k : α → Env → Out γ} {Q : β → Hp → Prop} {Q' : δ → Hp → Prop} {F0 O0 : Fz} {H0 : Hp} {ρ0 : Env}
    (t0 : Stp F0 H0 O0 F H O) (p0 : Pin ρ0 ρ) (h : WantG K xr W rep' σ F0 H0 O0 ρ0 (o.bind k) Q')
    (f : ∀ a ρ1 F1 H1 O1 b, StI K F1 H1 O1 σ ρ1 → Stp F H O F1 H1 O1 → Stp F0 H0 O0 F1 H1 O1 → Pin ρ0 ρ1 → rep F1 H1 O1 b a → WantG K xr W rep' σ F0 H0 O0 ρ0 (k a ρ1) Q' → Q b H1) : WantG K xr W rep σ F H O ρ o Q := by
  cases o with
  | ok a ρ1 => exact fun F1 H1 O1 b S t p r => f a ρ1 F1 H1 O1 b S t (t0.trans t) (p0.trans p) r h
  | ex x ρ1 => exact fun F1 H1 O1 c d S t p r => h F1 H1 O1 c d S (t0.trans t) (p0.trans p) r
  | no => exact h
theorem WantG.lift {α β : Type} {rep : Fz → Hp → Fz → β → α → Prop} {o : Option α} {ρ1 : Env} {Q : β → Hp → Prop} (h : WantG K xr W rep σ F H O ρ (Out.lift o ρ1) Q) : ∃ a, o = some a ∧ WantG K xr W rep σ F H O ρ (.ok a ρ1 : Out α) Q := by
  cases o with
  | none => exact h.elim
  | some a => exact ⟨a, rfl, h⟩
/-- the end of a value -/
theorem WantG.give {α β : Type} {rep : Fz → Hp → Fz → β → α → Prop} {a : α} {Q : β → Hp → Prop} {b : β} (h : WantG K xr W rep σ F H O ρ (.ok a ρ' : Out α) Q) (S : StI K F' H' O' σ ρ') (t : Stp F H O F' H' O') (p : Pin ρ ρ') (r : rep F' H' O' b a) : Q b H' := h F' H' O' b S t p r
theorem NewR.done {v : V} {r : R} {F0 O0 : Fz} {H0 : Hp} {ρ0 : Env} {Q : VK} (h : NewR K F H v H' r) (S : StI K F H O σ ρ) (t : Stp F0 H0 O0 F H O) (p : Pin ρ0 ρ) (w : WantE K xr W σ F0 H0 O0 ρ0 (.ok r ρ) Q) : Q v H' := by
  obtain ⟨F', S', t', rr⟩ := h.use S
  exact w F' H' O v S' (t.trans t') p (rr.from fun a e => t.none e)
theorem PD.ev {e : Expr} {ev ev' : Env → Out R} (h : PD X xr W e ev) (q : ∀ ρ, ev ρ = ev' ρ) : PD X xr W e ev' := by
  have : ev = ev' := funext q
  subst this
  exact h
theorem PDt.ev {e : Expr} {ev ev' : Env → Out Bool} (h : PDt X xr W e ev) (q : ∀ ρ, ev ρ = ev' ρ) : PDt X xr W e ev' := by
  have : ev = ev' := funext q
  subst this
  exact h
theorem PD.frz {e : Expr} {ev : Env → Out R} (h : PD X xr W e ev) : PDd X xr W e (fun ρ => (ev ρ).bind MI.frz) := by
  obtain ⟨t, ht, hh⟩ := h.run
  refine ⟨t, ht, fun F H O σ ρ Q S w => hh F H O σ ρ Q S ?_⟩
  refine WantG.seq .refl (.refl _) w fun r ρ1 F1 H1 O1 v S1 _ t1 p1 rr w1 => ?_
  cases q : MI.frz r ρ1 with
  | ok d ρ2 =>
    obtain ⟨F2, O2, z⟩ := frz_ok S1 rr q
    rw [q] at w1
    exact w1 F2 H1 O2 v z.st (z.stp t1) (p1.trans z.pin) z.dat
  | ex x ρ2 => exact (frz_ex q).elim
  | no => rw [q] at w1; exact w1.elim
/-! ### names, constants -/
theorem pd_var {i : Nat} {x : Str} {pos : Pos} (hN : X.N[i]? = some x) (hv : Vis X.env.scope x) (hd : (x == ("__debug__" : Str)) = false) (hcd : (x == ("__classdict__" : Str)) = false) (cx : Cxt) : PD X xr W (.Name x pos) (evE cx (.var i)) := by
  refine ⟨_, pe_var hN hv hd hcd, fun F H O σ ρ Q S w => ?_⟩
  cases e : ρ.get i with
  | none => simp only [evE, e] at w; exact w.elim
  | some m =>
    simp only [evE, e] at w
    obtain ⟨v, hv, rm⟩ := S.var i m e
    refine ⟨v, hv, ?_⟩
    cases m with
    | sh d => exact w F H O v S .refl (.refl _) rm
    | ol p xs => exact w F H O v S .refl (.refl _) hv
    | od p xs => exact w F H O v S .refl (.refl _) hv
    | ob C fs => exact rm.elim
    | sc ns => exact w F H O v S .refl (.refl _) rm
theorem pd_c {e : Expr} {v : V} {d : D} {ev : Env → Out R} (hp : PE X e (tC v)) (h : ∀ F H, Dat X.K F H v d) (q : ∀ ρ, ev ρ = .ok (.val d) ρ) : PD X xr W e ev :=
  ⟨_, hp, fun F H O σ ρ Q S w => by rw [q] at w; exact w F H O v S .refl (.refl _) (h F H)⟩
theorem pd_int {i : Int} {j : Nat} {pos : Pos} (cx : Cxt) : PD X xr W (.Constant (.int i) j pos) (evE cx (.int i)) := pd_c pe_int (fun _ _ => .int i) fun _ => by simp only [evE]
theorem pd_bl {i : Bool} {j : Nat} {pos : Pos} (cx : Cxt) : PD X xr W (.Constant (.bool i) j pos) (evE cx (.bl i)) := pd_c pe_bl (fun _ _ => .bl i) fun _ => by simp only [evE]
theorem pd_non {j : Nat} {pos : Pos} (cx : Cxt) : PD X xr W (.Constant .none j pos) (evE cx .non) := pd_c pe_non (fun _ _ => .non) fun _ => by simp only [evE]
theorem pd_str {s : String} {j : Nat} {pos : Pos} (cx : Cxt) : PD X xr W (.Constant (.str (Str.ofString s)) j pos) (evE cx (.str s)) := pd_c pe_str (fun _ _ => .str _) fun _ => by simp only [evE]
/-! ### operators -/
theorem pd_op2 {g : D → D → Option R} {ae be e : Expr} {eva evb : Env → Out R} (mk : ∀ ta tb, PE X ae ta → PE X be tb → PE X e (tOp (r2Of X.K g) ta tb)) (ha : PD X xr W ae eva) (hb : PD X xr W be evb) :
    PD X xr W e (fun ρ => (eva ρ).bind fun ra ρ => (evb ρ).bind fun rb ρ => Out.lift ((ra.cont ρ).bind fun x => (rb.cont ρ).bind fun y => g x y) ρ) := by
  obtain ⟨ta, pa, ka⟩ := ha.run
  obtain ⟨tb, pb, kb⟩ := hb.run
  refine ⟨_, mk ta tb pa pb, fun F H O σ ρ Q S w => ?_⟩
  refine ka F H O σ ρ _ S (WantG.seq .refl (.refl _) w fun ra ρ1 F1 H1 O1 va S1 _ t1 p1 r1 w => ?_)
  refine kb F1 H1 O1 σ ρ1 _ S1 (WantG.seq t1 p1 w fun rb ρ2 F2 H2 O2 vb S2 t12 t2 p2 r2 w => ?_)
  obtain ⟨res, he, w⟩ := w.lift
  simp only [Option.bind_eq_some_iff] at he
  obtain ⟨x, hx, y, hy, hg⟩ := he
  exact ⟨F2, x, y, res, cont_ok S2 (r1.stp S1 t12) hx, cont_ok S2 r2 hy, hg, fun v H' nr => nr.done S2 t2 p2 w⟩
theorem pd_bin {o : Op} {p : Operator} {a b : Expr} {x y : Ex} {pos : Pos} {cx : Cxt} (h : opOk o p = true) (ha : PD X xr W a (evE cx x)) (hb : PD X xr W b (evE cx y)) : PD X xr W (.BinOp a p b pos) (evE cx (.bin o x y)) :=
  (pd_op2 (fun ta tb pa pb => pe_op (bin_ok h) pa pb) ha hb).ev fun ρ => by simp only [evE]
theorem opR_imp {f : Value → Value → Sem Value} {r r' : R2} (h : OpR X f r) (i : ∀ x y H Q, r' x y H Q → r x y H Q) : OpR X f r' := fun pins s σ H x y v u Q I rx ry q => h pins s σ H x y v u Q I rx ry (i x y H Q q)
theorem cmp_ok' {k : Nat} (hr : Room k X.A) {o : Cp} {p : CmpOp} (h : cpOk o p = true) : OpR X (compareOp p) (r2Of X.K fun d e => (opCmp o d e).map fun c => .val (.bool c)) :=
  opR_imp (cmp_ok hr h) fun x y H Q ⟨F, d, e, res, hx, hy, hg, hq⟩ => by
    simp only [Option.map_eq_some_iff] at hg
    obtain ⟨c, hc, rfl⟩ := hg
    exact ⟨F, d, e, c, hx, hy, hc, hq _ _ (.same (.bl c))⟩
theorem behind_ok {o : Cp} {p : CmpOp} (h : cpOk o p = true) (b : Expr) (hb : behindInMarks p b = false) : behindInMarks p b = false := hb
theorem pd_cmp {k : Nat} (hr : Room k X.A) {o : Cp} {p : CmpOp} {a b : Expr} {x y : Ex} {pos : Pos} {cx : Cxt} (h : cpOk o p = true) (hm : behindInMarks p b = false) (ha : PD X xr W a (evE cx x)) (hb : PD X xr W b (evE cx y)) : PD X xr W (.Compare a [p] [b] pos) (evE cx (.cmp o x y)) :=
  (pd_op2 (fun ta tb pa pb => pe_cmpR (cmp_ok' hr h) pa pb hm) ha hb).ev fun ρ => by simp only [evE]
theorem pd_idx {a b : Expr} {x y : Ex} {pos : Pos} {cx : Cxt} (hs : PlainIx b) (ha : PD X xr W a (evE cx x)) (hb : PD X xr W b (evE cx y)) : PD X xr W (.Subscript a b pos) (evE cx (.idx x y)) :=
  (pd_op2 (fun ta tb pa pb => pe_ix idx_ok pa pb hs) ha hb).ev fun ρ => by simp only [evE]
theorem pd_neg {a : Expr} {x : Ex} {pos : Pos} {cx : Cxt} (ha : PD X xr W a (evE cx x)) : PD X xr W (.UnaryOp .USub a pos) (evE cx (.neg x)) := by
  obtain ⟨ta, pa, ka⟩ := ha.run
  refine ⟨_, pe_un un_neg pa, fun F H O σ ρ Q S w => ?_⟩
  simp only [evE] at w
  refine ka F H O σ ρ _ S (WantG.seq .refl (.refl _) w fun ra ρ1 F1 H1 O1 va S1 _ t1 p1 r1 w => ?_)
  split at w
  · rename_i i hi
    have := (cont_ok S1 r1 hi).int
    subst this
    exact ⟨i, rfl, w F1 H1 O1 _ S1 t1 p1 (.int _)⟩
  · exact w.elim
end
end MI
namespace MI
open PySem PySem.Spec PyProof.Rows L2
variable {K : PySem.W.Frag} {F F' : Fz} {H H' : Hp} {O O' : Fz} {σ : L2.St} {ρ ρ' : Env}
theorem truth_ok {v : V} {d : D} {b : Bool} (h : Dat1 K F H v d) (e : truth d = some b) : TruV K v H b := by
  cases d with
  | none => cases h.non; cases e; rfl
  | bool c => cases h.bl; cases e; rfl
  | int i => cases h.int; cases e; rfl
  | str x =>
    cases h.str
    obtain ⟨h1, rfl⟩ := gd_some e
    refine ⟨by simpa [lim_eq] using h1, ?_⟩
    show (x.length != 0) = (((x.length : Nat) : Int) != 0)
    generalize x.length = n
    cases n with
    | zero => rfl
    | succ n => rfl
  | list xs =>
    obtain ⟨a, vs, rfl, ha, da⟩ := h.lst
    cases e
    refine .inl ⟨vs, SqL.of ha, ?_⟩
    cases da <;> rfl
  | tuple xs =>
    obtain ⟨a, vs, rfl, ha, da⟩ := h.tup
    cases e
    refine .inr (.inl ⟨vs, ha, ?_⟩)
    cases da <;> rfl
  | dict kvs =>
    cases e
    have key : ∀ (ds : List (D × D)) (ks : List (Key × V)), Dats K F H (ks.map (·.2)) (ds.map (·.2)) → (!ds.isEmpty) = !ks.isEmpty := by
      intro ds ks q
      cases ds <;> cases ks <;> first | rfl | (cases q)
    cases h with
    | sh h => cases h with
      | dK f e t u => exact .inr (.inr ⟨_, e, key _ _ u⟩)
    | od e t u => exact .inr (.inr ⟨_, e, key _ _ u⟩)
section
variable {X : Cx} {xr : XRep} {W : WX} {cx : Cxt}
theorem truthR_ok {H0 : Hp} {v : V} {r : R} {o : Out Bool} (S : StI K F H O σ ρ) (h : RepR K H0 F H O σ v r) (e : truthR r ρ = o) : (∃ b, o = .ok b ρ ∧ TruV K v H b) ∨ o = .no := by
  subst e
  unfold truthR
  cases q : (r.cont ρ).bind truth with
  | none => exact .inr rfl
  | some b =>
    simp only [Option.bind_eq_some_iff] at q
    obtain ⟨d, hd, hb⟩ := q
    exact .inl ⟨b, rfl, truth_ok (cont_ok S h hd) hb⟩
theorem pd_not {a : Expr} {x : Ex} {pos : Pos} (ha : PD X xr W a (evE cx x)) : PD X xr W (.UnaryOp .Not a pos) (evE cx (.not x)) := by
  obtain ⟨ta, pa, ka⟩ := ha.run
  refine ⟨_, pe_notT pa, fun F H O σ ρ Q S w => ?_⟩
  simp only [evE] at w
  have w' : WantE X.K xr W σ F H O ρ ((evE cx x ρ).bind fun r ρ => (truthR r ρ).bind fun b ρ => .ok (.val (.bool (!b))) ρ) Q := by
    cases e : evE cx x ρ with
    | ok r ρ1 => rw [e] at w; exact w
    | ex z ρ1 => rw [e] at w; exact w
    | no => rw [e] at w; exact w
  refine ka F H O σ ρ _ S (WantG.seq .refl (.refl _) w' fun ra ρ1 F1 H1 O1 va S1 _ t1 p1 r1 w => ?_)
  rcases truthR_ok S1 r1 rfl with ⟨b, e, tv⟩ | e
  · rw [e] at w
    exact ⟨b, tv, w F1 H1 O1 _ S1 t1 p1 (.bl _)⟩
  · rw [e] at w; exact w.elim
/-- a test by the value's truth -/
theorem pdt_val {a : Expr} {x : Ex} (he : ∀ whole, isTrue a X.env whole = (do let v ← whole; standAt a.pos; holding [v] (truthy v))) (ha : PD X xr W a (evE cx x)) : PDt X xr W a (fun ρ => (evE cx x ρ).bind truthR) := by
  obtain ⟨ta, pa, ka⟩ := ha.run
  refine ⟨_, pt_truth pa he, fun F H O σ ρ Q S w => ?_⟩
  refine ka F H O σ ρ _ S (WantG.seq .refl (.refl _) w fun ra ρ1 F1 H1 O1 va S1 _ t1 p1 r1 w => ?_)
  rcases truthR_ok S1 r1 rfl with ⟨b, e, tv⟩ | e
  · rw [e] at w
    exact ⟨b, tv, w F1 H1 O1 _ S1 t1 p1 rfl⟩
  · rw [e] at w; exact w.elim
theorem pdt_cmp {k : Nat} (hr : Room k X.A) {o : Cp} {p : CmpOp} {a b : Expr} {x y : Ex} {pos : Pos} (h : cpOk o p = true) (hm : behindInMarks p b = false) (ha : PD X xr W a (evE cx x)) (hb : PD X xr W b (evE cx y)) :
    PDt X xr W (.Compare a [p] [b] pos) (fun ρ => (evE cx (.cmp o x y) ρ).bind truthR) := by
  obtain ⟨ta, pa, ka⟩ := ha.run
  obtain ⟨tb, pb, kb⟩ := hb.run
  refine ⟨_, pt_cmpR (cmp_ok hr h) pa pb hm, fun F H O σ ρ Q S w => ?_⟩
  have w' : WantB X.K xr W σ F H O ρ ((evE cx x ρ).bind fun ra ρ => (evE cx y ρ).bind fun rb ρ => (Out.lift ((ra.cont ρ).bind fun x => (rb.cont ρ).bind fun y => opCmp o x y) ρ)) Q := by
    simp only [evE] at w
    cases e1 : evE cx x ρ with
    | ok ra ρ1 =>
      simp only [e1, Out.bind] at w ⊢
      cases e2 : evE cx y ρ1 with
      | ok rb ρ2 =>
        simp only [e2, Out.bind] at w ⊢
        cases e3 : ((ra.cont ρ2).bind fun x => (rb.cont ρ2).bind fun y => (opCmp o x y)) with
        | none =>
          have e4 : ((ra.cont ρ2).bind fun x => (rb.cont ρ2).bind fun y => (opCmp o x y).map fun c => R.val (.bool c)) = none := by
            cases c1 : ra.cont ρ2 <;> simp [c1] at e3 ⊢
            rename_i d1
            cases c2 : rb.cont ρ2 <;> simp [c2] at e3 ⊢
            exact e3
          rw [e4] at w
          exact w
        | some c =>
          have e4 : ((ra.cont ρ2).bind fun x => (rb.cont ρ2).bind fun y => (opCmp o x y).map fun c => R.val (.bool c)) = some (.val (.bool c)) := by
            simp only [Option.bind_eq_some_iff] at e3
            obtain ⟨d1, h1, d2, h2, h3⟩ := e3
            simp [h1, h2, h3]
          rw [e4] at w
          exact w
      | ex z ρ2 => simp only [e2, Out.bind] at w ⊢; exact w
      | no => simp only [e2, Out.bind] at w ⊢; exact w
    | ex z ρ1 => simp only [e1, Out.bind] at w ⊢; exact w
    | no => simp only [e1, Out.bind] at w ⊢; exact w
  refine ka F H O σ ρ _ S (WantG.seq .refl (.refl _) w' fun ra ρ1 F1 H1 O1 va S1 _ t1 p1 r1 w => ?_)
  refine kb F1 H1 O1 σ ρ1 _ S1 (WantG.seq t1 p1 w fun rb ρ2 F2 H2 O2 vb S2 t12 t2 p2 r2 w => ?_)
  obtain ⟨c, he, w⟩ := w.lift
  simp only [Option.bind_eq_some_iff] at he
  obtain ⟨d, hd, e, he, hg⟩ := he
  exact ⟨F2, d, e, c, cont_ok S2 (r1.stp S1 t12) hd, cont_ok S2 r2 he, hg, c, rfl, w F2 H2 O2 c S2 t2 p2 rfl⟩
theorem pdt_not {a : Expr} {x : Ex} {pos : Pos} (ha : PDt X xr W a (evT cx x)) : PDt X xr W (.UnaryOp .Not a pos) (evT cx (.not x)) := by
  obtain ⟨ta, pa, ka⟩ := ha.run
  refine ⟨_, pt_not pa, fun F H O σ ρ Q S w => ?_⟩
  simp only [evT] at w
  refine ka F H O σ ρ _ S (WantG.seq .refl (.refl _) w fun ra ρ1 F1 H1 O1 va S1 _ t1 p1 r1 w => ?_)
  subst r1
  exact w F1 H1 O1 _ S1 t1 p1 rfl
theorem pdw_and1 {a : Expr} {pos : Pos} {ev : Env → Out Bool} (ha : PDt X xr W a ev) : PDw X xr W (.BoolOp .And [a] pos) ev := by
  obtain ⟨ta, pa, ka⟩ := ha.run
  exact ⟨_, pw_and1 pa, ka⟩
theorem pdw_or1 {a : Expr} {pos : Pos} {ev : Env → Out Bool} (ha : PDt X xr W a ev) : PDw X xr W (.BoolOp .Or [a] pos) ev := by
  obtain ⟨ta, pa, ka⟩ := ha.run
  exact ⟨_, pw_or1 pa, ka⟩
theorem PDw.pt {a : Expr} {ev : Env → Out Bool} (h : PDw X xr W a ev) : PDt X xr W a ev := by
  obtain ⟨ta, pa, ka⟩ := h.run
  exact ⟨_, pa.pt, ka⟩
theorem pdw_and {a b : Expr} {rest : List Expr} {x y : Ex} {pos : Pos} (ha : PDt X xr W a (evT cx x)) (hb : PDw X xr W (.BoolOp .And (b :: rest) pos) (evT cx y)) : PDw X xr W (.BoolOp .And (a :: b :: rest) pos) (evT cx (.and x y)) := by
  obtain ⟨ta, pa, ka⟩ := ha.run
  obtain ⟨tb, pb, kb⟩ := hb.run
  refine ⟨_, pw_and pa pb, fun F H O σ ρ Q S w => ?_⟩
  simp only [evT] at w
  refine ka F H O σ ρ _ S (WantG.seq .refl (.refl _) w fun c ρ1 F1 H1 O1 b S1 _ t1 p1 r1 w => ?_)
  subst r1
  cases b with
  | true => exact kb F1 H1 O1 σ ρ1 Q S1 (WantG.after (by simpa using w) t1 p1)
  | false => exact w F1 H1 O1 _ S1 t1 p1 rfl
theorem pdw_or {a b : Expr} {rest : List Expr} {x y : Ex} {pos : Pos} (ha : PDt X xr W a (evT cx x)) (hb : PDw X xr W (.BoolOp .Or (b :: rest) pos) (evT cx y)) : PDw X xr W (.BoolOp .Or (a :: b :: rest) pos) (evT cx (.or x y)) := by
  obtain ⟨ta, pa, ka⟩ := ha.run
  obtain ⟨tb, pb, kb⟩ := hb.run
  refine ⟨_, pw_or pa pb, fun F H O σ ρ Q S w => ?_⟩
  simp only [evT] at w
  refine ka F H O σ ρ _ S (WantG.seq .refl (.refl _) w fun c ρ1 F1 H1 O1 b S1 _ t1 p1 r1 w => ?_)
  subst r1
  cases b with
  | true => exact w F1 H1 O1 _ S1 t1 p1 rfl
  | false => exact kb F1 H1 O1 σ ρ1 Q S1 (WantG.after (by simpa using w) t1 p1)
/-- .. as values -/
theorem pd_one {o : BoolOp} {a : Expr} {pos : Pos} {ev : Env → Out R} (ha : PD X xr W a ev) : PD X xr W (.BoolOp o [a] pos) ev := by
  obtain ⟨ta, pa, ka⟩ := ha.run
  exact ⟨_, pe_one pa, ka⟩
theorem pd_and {a b : Expr} {rest : List Expr} {x y : Ex} {pos : Pos} (ha : PD X xr W a (evE cx x)) (hb : PD X xr W (.BoolOp .And (b :: rest) pos) (evE cx y)) : PD X xr W (.BoolOp .And (a :: b :: rest) pos) (evE cx (.and x y)) := by
  obtain ⟨ta, pa, ka⟩ := ha.run
  obtain ⟨tb, pb, kb⟩ := hb.run
  refine ⟨_, pe_and pa pb, fun F H O σ ρ Q S w => ?_⟩
  simp only [evE] at w
  refine ka F H O σ ρ _ S (WantG.seq .refl (.refl _) w fun r ρ1 F1 H1 O1 v S1 _ t1 p1 r1 w => ?_)
  split at w
  · cases r1
    exact ⟨true, rfl, kb F1 H1 O1 σ ρ1 Q S1 (WantE.after w t1 p1)⟩
  · cases r1
    exact ⟨false, rfl, w F1 H1 O1 _ S1 t1 p1 (.bl _)⟩
  · exact w.elim
theorem pd_or {a b : Expr} {rest : List Expr} {x y : Ex} {pos : Pos} (ha : PD X xr W a (evE cx x)) (hb : PD X xr W (.BoolOp .Or (b :: rest) pos) (evE cx y)) : PD X xr W (.BoolOp .Or (a :: b :: rest) pos) (evE cx (.or x y)) := by
  obtain ⟨ta, pa, ka⟩ := ha.run
  obtain ⟨tb, pb, kb⟩ := hb.run
  refine ⟨_, pe_or pa pb, fun F H O σ ρ Q S w => ?_⟩
  simp only [evE] at w
  refine ka F H O σ ρ _ S (WantG.seq .refl (.refl _) w fun r ρ1 F1 H1 O1 v S1 _ t1 p1 r1 w => ?_)
  split at w
  · cases r1
    exact ⟨false, rfl, kb F1 H1 O1 σ ρ1 Q S1 (WantE.after w t1 p1)⟩
  · cases r1
    exact ⟨true, rfl, w F1 H1 O1 _ S1 t1 p1 (.bl _)⟩
  · exact w.elim
theorem pd_ite {c a b : Expr} {z x y : Ex} {pos : Pos} (hc : PDt X xr W c (evT cx z)) (ha : PD X xr W a (evE cx x)) (hb : PD X xr W b (evE cx y)) : PD X xr W (.IfExp c a b pos) (evE cx (.ite z x y)) := by
  obtain ⟨tc, pc, kc⟩ := hc.run
  obtain ⟨ta, pa, ka⟩ := ha.run
  obtain ⟨tb, pb, kb⟩ := hb.run
  refine ⟨_, pe_ifExp pc pa pb, fun F H O σ ρ Q S w => ?_⟩
  simp only [evE] at w
  refine kc F H O σ ρ _ S (WantG.seq .refl (.refl _) w fun k ρ1 F1 H1 O1 b S1 _ t1 p1 r1 w => ?_)
  subst r1
  cases b with
  | true => exact ka F1 H1 O1 σ ρ1 Q S1 (WantE.after (by simpa using w) t1 p1)
  | false => exact kb F1 H1 O1 σ ρ1 Q S1 (WantE.after (by simpa using w) t1 p1)
/-! ### argument lists, displays -/
theorem pds_nil : PDs X xr W [] (evDs cx []) := ⟨_, pa_nil, fun F H O σ ρ Q S w => by simp only [evDs] at w; exact w F H O _ S .refl (.refl _) .nil⟩
theorem pds_cons {e : Expr} {es : List Expr} {x : Ex} {xs : List Ex} (hs : starEach (e :: es) X.env = (false, eval e X.env) :: starEach es X.env) (ha : PD X xr W e (evE cx x)) (hb : PDs X xr W es (evDs cx xs)) : PDs X xr W (e :: es) (evDs cx (x :: xs)) := by
  obtain ⟨ta, pa, ka⟩ := ha.frz.run
  obtain ⟨tb, pb, kb⟩ := hb.run
  refine ⟨_, pa_cons pa pb hs, fun F H O σ ρ Q S w => ?_⟩
  simp only [evDs] at w
  refine ka F H O σ ρ _ S (WantG.seq .refl (.refl _) w fun d ρ1 F1 H1 O1 v S1 _ t1 p1 r1 w => ?_)
  refine kb F1 H1 O1 σ ρ1 _ S1 (WantG.seq t1 p1 w fun ds ρ2 F2 H2 O2 vs S2 t12 t2 p2 r2 w => ?_)
  exact w F2 H2 O2 _ S2 t2 p2 (.cons (Dat.ext (S1.ext t12) r1) r2)
theorem pd_tup {es : List Expr} {xs : List Ex} {k : Nat} {pos : Pos} (h : PDs X xr W es (evDs cx xs)) : PD X xr W (.Tuple es k pos) (evE cx (.tup xs)) := by
  obtain ⟨t, p, kk⟩ := h.run
  refine ⟨_, pe_tup p, fun F H O σ ρ Q S w => ?_⟩
  simp only [evE] at w
  refine kk F H O σ ρ _ S (WantG.seq .refl (.refl _) w fun ds ρ1 F1 H1 O1 vs S1 _ t1 p1 r1 w => ?_)
  split at w
  · rename_i hl
    exact ⟨by rw [r1.length]; simpa [lim_eq] using hl, fun p hp => (NewR.tup hp r1).done S1 t1 p1 w⟩
  · exact w.elim
theorem pd_lst {es : List Expr} {xs : List Ex} {pos : Pos} (h : PDs X xr W es (evDs cx xs)) : PD X xr W (.List es pos) (evE cx (.lst xs)) := by
  obtain ⟨t, p, kk⟩ := h.run
  refine ⟨_, pe_lst p, fun F H O σ ρ Q S w => ?_⟩
  simp only [evE] at w
  refine kk F H O σ ρ _ S (WantG.seq .refl (.refl _) w fun ds ρ1 F1 H1 O1 vs S1 _ t1 p1 r1 w => ?_)
  split at w
  · rename_i hl
    exact ⟨by rw [r1.length]; simpa [lim_eq] using hl, fun p hp => (NewR.lst hp r1).done S1 t1 p1 w⟩
  · exact w.elim
end
end MI
namespace MI
open PySem PySem.Spec PyProof.Rows L2
variable {K : PySem.W.Frag} {F F' : Fz} {H H' : Hp} {O O' : Fz} {σ : L2.St} {ρ ρ' : Env}
section
variable {X : Cx} {xr : XRep} {W : WX} {cx : Cxt}
/-! ### cuts -/
structure PDo (X : Cx) (xr : XRep) (W : WX) (e : Option Expr) (ev : Env → Out (Option Int)) : Prop where
  run : ∃ t : TO, PO X e t ∧ ∀ F H O σ ρ Q, StI X.K F H O σ ρ → WantG X.K xr W (fun _ _ _ b a => b = a) σ F H O ρ (ev ρ) Q → t σ H Q
theorem pdo_none : PDo X xr W none (fun ρ => .ok none ρ) :=
  ⟨_, po_none, fun F H O σ ρ Q S w => w F H O none S .refl (.refl _) rfl⟩
theorem pdo_some {e : Expr} {x : Ex} (h : PD X xr W e (evE cx x)) : PDo X xr W (some e) (fun ρ => ((evE cx x ρ).bind MI.frz).bind someInt) := by
  obtain ⟨t, p, k⟩ := h.frz.run
  refine ⟨_, po_some p, fun F H O σ ρ Q S w => ?_⟩
  refine k F H O σ ρ _ S (WantG.seq .refl (.refl _) w fun d ρ1 F1 H1 O1 v S1 _ t1 p1 r1 w => ?_)
  cases d with
  | int i =>
    cases r1
    exact ⟨i, rfl, w F1 H1 O1 _ S1 t1 p1 rfl⟩
  | none => exact w.elim
  | bool b => exact w.elim
  | str b => exact w.elim
  | list b => exact w.elim
  | tuple b => exact w.elim
  | dict b => exact w.elim
def evO (cx : Cxt) (o : Option Ex) (ρ : Env) : Out (Option Int) := match o with
  | none => .ok none ρ
  | some e => ((evE cx e ρ).bind MI.frz).bind someInt
theorem evE_sl (a : Ex) (lo hi : Option Ex) (ρ : Env) : evE cx (.sl a lo hi) ρ = (evE cx a ρ).bind fun ra ρ => (evO cx lo ρ).bind fun l ρ => (evO cx hi ρ).bind fun h ρ => Out.lift ((ra.contS ρ).bind fun x => opSl x l h) ρ := by
  cases lo <;> cases hi <;> simp only [evE, evO]
theorem pd_sl {a : Expr} {lo hi : Option Expr} {x : Ex} {l h : Option Ex} {p2 pos : Pos} (ha : PD X xr W a (evE cx x)) (hl : PDo X xr W lo (evO cx l)) (hh : PDo X xr W hi (evO cx h)) :
    PD X xr W (.Subscript a (.Slice lo hi none p2) pos) (evE cx (.sl x l h)) := by
  obtain ⟨ta, pa, ka⟩ := ha.run
  obtain ⟨tl, pl, kl⟩ := hl.run
  obtain ⟨th, ph, kh⟩ := hh.run
  refine ⟨_, pe_slice sl_ok pa pl ph, fun F H O σ ρ Q S w => ?_⟩
  rw [evE_sl] at w
  refine ka F H O σ ρ _ S (WantG.seq .refl (.refl _) w fun ra ρ1 F1 H1 O1 va S1 _ t1 p1 r1 w => ?_)
  refine kl F1 H1 O1 σ ρ1 _ S1 (WantG.seq t1 p1 w fun ol ρ2 F2 H2 O2 vl S2 t12 t2 p2 r2 w => ?_)
  refine kh F2 H2 O2 σ ρ2 _ S2 (WantG.seq t2 p2 w fun oh ρ3 F3 H3 O3 vh S3 t23 t3 p3 r3 w => ?_)
  obtain ⟨res, he, w'⟩ := w.lift
  simp only [Option.bind_eq_some_iff] at he
  obtain ⟨d, hd, hg⟩ := he
  subst r2 r3
  exact ⟨F3, d, res, contS_ok S3 ((r1.stp S1 t12).stp S2 t23) hd, hg, fun v H' nr => nr.done S3 t3 p3 w'⟩
/-! ### xs[::-1] -/
theorem rev_applied {prog : Program} {w : World} {A : Around} {E : Value → Shared → Prop} {s : Shared} {sl : Addr} {vl vu vs : Value} {n : Nat} {Q : Int × Int × Nat → Shared → Prop} (hs : s.heap.IsSliceOf sl vl vu vs) (pl : IsPart vl none) (pu : IsPart vu none) (ps : IsPart vs (some (-1)))
    (h : Q ((n : Int) - 1, -1, n) s) : wpAny (model prog w) A (Builtin.Slice.sliceApplied (.ref sl) (pure (n : Int))) Q E s := by
  obtain ⟨os, hos, hcs, hds⟩ := id hs
  unfold Builtin.Slice.sliceApplied Builtin.Slice.sliceFields
  refine wpAny_bind (wpAny_bind (wpAny_field hos hds (x := vl) rfl (wpAny_bind (wpAny_field hos hds (x := vu) rfl (wpAny_bind (wpAny_field hos hds (x := vs) rfl (wpAny_pure ?_)))))))
  refine wpAny_bind (HT.slicePart_ ps ?_)
  show wpAny _ _ (if ((-1 : Int) == 0) = true then _ else _) _ _ s
  rw [if_neg (by decide)]
  refine wpAny_bind (HT.slicePart_ pl (wpAny_bind (HT.slicePart_ pu (wpAny_bind (wpAny_pure ?_)))))
  have e1 : Builtin.Slice.sliceAdjust none none (-1) (n : Int) = ((n : Int) - 1, -1) := by
    unfold Builtin.Slice.sliceAdjust
    simp
  have e2 : Builtin.Slice.slicePlaces ((n : Int) - 1) (-1) (-1) = n := by
    unfold Builtin.Slice.slicePlaces
    rw [if_neg (by decide)]
    by_cases q : ((n : Int) - 1 > -1)
    · rw [if_pos q]
      have : -(-1 : Int) = 1 := rfl
      rw [this, Int.ediv_one]
      omega
    · rw [if_neg q]; omega
  show wpAny _ _ (match Builtin.Slice.sliceAdjust none none (-1) (n : Int) with | (lo, hi) => pure (lo, (-1 : Int), Builtin.Slice.slicePlaces lo hi (-1))) _ _ s
  rw [e1]
  show wpAny _ _ (pure ((n : Int) - 1, (-1 : Int), Builtin.Slice.slicePlaces ((n : Int) - 1) (-1) (-1))) _ _ s
  rw [e2]
  exact wpAny_pure h
theorem rev_pick (xs : Array Value) : ((List.range xs.size).filterMap fun (m : Nat) => xs[((xs.size : Int) - 1 + (m : Int) * (-1)).toNat]?).toArray = xs.toList.reverse.toArray := by
  congr 1
  have e : (fun (m : Nat) => xs[((xs.size : Int) - 1 + (m : Int) * (-1)).toNat]?) = fun (m : Nat) => xs.toList[((xs.toList.length : Int) - 1 + (m : Int) * (-1)).toNat]? := by
    funext m
    rw [Array.getElem?_toList]
    rfl
  rw [e]
  have l : xs.size = xs.toList.length := rfl
  rw [l]
  generalize xs.toList = ys
  have key : ∀ k, k ≤ ys.length → (List.range k).filterMap (fun (m : Nat) => ys[((ys.length : Int) - 1 + (m : Int) * (-1)).toNat]?) = ys.reverse.take k := by
    intro k
    induction k with
    | zero => intro _; rfl
    | succ k ih =>
      intro hk
      rw [List.range_succ, List.filterMap_append, ih (by omega), List.take_add_one]
      congr 1
      have e3 : ((ys.length : Int) - 1 + (k : Int) * (-1)).toNat = ys.length - 1 - k := by omega
      rw [List.filterMap_cons, e3, List.getElem?_reverse (by omega), List.getElem?_eq_getElem (by omega)]
      rfl
  have := key ys.length (Nat.le_refl _)
  rw [this, ← List.length_reverse, List.take_length]
theorem getItem_tuple_rev {prog : Program} {w : World} {A : Around} {E : Value → Shared → Prop} {s : Shared} {t sl : Addr} {items : Array Value} {vl vu vs : Value} {Q : Value → Shared → Prop} (ht : IsTup s.heap t items) (hs : s.heap.IsSliceOf sl vl vu vs) (pl : IsPart vl none) (pu : IsPart vu none) (ps : IsPart vs (some (-1)))
    (h : Q (.ref s.heap.objs.size) { s with heap := s.heap.push { cls := .type "tuple", data := .seq items.toList.reverse.toArray } }) (hsz : items.size ≤ sizeLine) : wpAny (model prog w) A (getItem (.ref t) (.ref sl)) Q E s := by
  obtain ⟨os, hos, hcs, hds⟩ := id hs
  have hTs : s.TypeIs (.ref sl) "slice" := ⟨os, hos, hcs⟩
  have htake : sizeOk (.seq items.toList.reverse.toArray) := by
    show items.toList.reverse.toArray.size ≤ sizeLine
    rw [List.size_toArray, List.length_reverse, Array.length_toList]
    exact hsz
  unfold getItem
  try with_reducible refine wpAny_holding ?_
  first | refine wpAny_bind (wpAny_pure ?_) | skip
  refine wpAny_bind (wpAny_sequenceKey ht.typeIs (by decide) ?_)
  refine wpAny_bind (wpAny_callSpecial?_slot (name := Str.ofString "__getitem__") ht.typeIs PyProof.Rows.slot_tuple_getitem
    (wpAny_call_entry PyProof.Rows.slot_tuple_getitem ht.typeIs entry_tuple_getitem ?_ (args_tuple_getitem _ _)))
  show wpAny _ _ (Builtin.Tuple.tupleItemsOf (.ref t) >>= _) _ _ s
  refine wpAny_bind (tupleItemsOf_ ht ?_)
  refine wpAny_bind (wpAny_typeOf hTs ?_)
  rw [if_pos (by decide)]
  refine wpAny_bind (rev_applied hs pl pu ps ?_)
  show wpAny _ _ (if (((items.size : Int) - 1) == 0 && (-1 : Int) == 1 && items.size == items.size) = true then _ else _) _ _ s
  rw [if_neg (by simp), rev_pick]
  first
    | exact wpAny_bind (m := Builtin.Tuple.tupleExact _) (wpAny_newObj_type (wpAny_pure ⟨_, rfl, wpAny_pure h⟩) htake)
    | exact wpAny_bind (m := Builtin.Tuple.tupleExact _) (wpAny_newObj_type (wpAny_bind (wpAny_pure (wpAny_pure ⟨_, rfl, wpAny_pure h⟩))) htake)
    | exact wpAny_bind (wpAny_bind (m := Builtin.Tuple.tupleExact _) (wpAny_newObj_type (wpAny_pure (wpAny_pure ⟨_, rfl, wpAny_pure h⟩)) htake))
    | exact wpAny_bind (wpAny_bind (m := Builtin.Tuple.tupleExact _) (wpAny_newObj_type (wpAny_pure ⟨_, rfl, wpAny_pure h⟩) htake))
def tRevA (K : PySem.W.Frag) (te : TE) : TE := fun σ H Q => te σ H fun x H1 => ∃ F d res, Dat1 K F H1 x d ∧ opRev d = some res ∧ ∀ v H', NewR K F H1 v H' res → Q v H'
theorem pe_revA {e : Expr} {te : TE} {k : Nat} {p1 p2 p3 pos : Pos} (he : PE X e te) : PE X (.Subscript e (.Slice none none (some (.UnaryOp .USub (.Constant (.int 1) k p1) p2)) p3) pos) (tRevA X.K te) := by
  refine ⟨fun pins s σ H Q I h => ?_⟩
  refine Subscript_ (thn (he.run pins s σ H _ I h) fun v s1 ⟨x, H1, I1, r1, q1⟩ => ?_)
  obtain ⟨F, d, res, hd, hg, q⟩ := q1
  have hst : PO X (some (.UnaryOp .USub (.Constant (.int 1) k p1) p2)) (tPart (tUn (rU fun i => .int (-i)) (tC (.int 1)))) := po_some (pe_un un_neg pe_int)
  refine wpAny_Slice (thn (po_none.run pins s1 σ H1 (fun o H2 => o = none ∧ H2 = H1) I1 ⟨rfl, rfl⟩) fun vl s2 ⟨l, H2, I2, pl, el, e2⟩ => ?_)
  subst el e2
  refine thn (po_none.run pins s2 σ H2 (fun o H3 => o = none ∧ H3 = H2) I2 ⟨rfl, rfl⟩) fun vu s3 ⟨u, H3, I3, pu, eu, e3⟩ => ?_
  subst eu e3
  refine thn (hst.run pins s3 σ H3 (fun o H4 => o = some (-1) ∧ H4 = H3) I3 ⟨1, rfl, -1, rfl, rfl, rfl⟩) fun vs s4 ⟨o, H4, I4, ps, eo, e4⟩ => ?_
  subst eo e4
  have I5 : Inv X pins σ H4 { s4 with heap := s4.heap.push { cls := .type "slice", data := .fields #[vl, vu, vs] } } := I4.kept (t' := s4.toks) fun b ob q => Heap.get?_push_of_some _ q
  cases d <;> try (cases hg; done)
  · obtain ⟨a, ws, rfl, ha, da⟩ := hd.lst
    cases r1
    cases hg
    obtain ⟨its, r, ht, hz⟩ := I5.list (SqL.of ha)
    have hlen := r.length
    show wpAny (model X.prog X.w) X.A (subscriptTail e (.Slice none none (some (.UnaryOp .USub (.Constant (.int 1) k p1) p2)) p3) (.ref a) (.ref s4.heap.objs.size)) (EP X pins σ Q) X.xe { s4 with heap := s4.heap.push { cls := .type "slice", data := .fields #[vl, vu, vs] } }
    refine tail_any (ops := [.ref a, .ref s4.heap.objs.size]) ht.isList.typeIs (PySem.slot_list_getitem.lookup) ?_ (by with_unfolding_all rfl)
    refine wpAny_getItem_list_slice ht.isList (Heap.IsSliceOf.new _ vl vu vs) pl pu ps (by decide) ?_ (by rw [List.size_toArray]; omega)
    rw [PySem.W.krv_pick]
    refine ⟨.ref _, _, I5.laid (t' := s4.toks) (o := .lst ws.reverse) (fun b ob q => Heap.get?_push_of_some _ q) (Nat.le_refl _) ?_, rfl, q _ _ (.lst (I5.hok.fresh (Nat.le_refl _)) da.reverse)⟩
    exact ⟨by rw [List.length_reverse]; exact hz, _, 0, r.reverse, Heap.get?_push_size _ rfl⟩
  · obtain ⟨a, ws, rfl, ha, da⟩ := hd.tup
    cases r1
    cases hg
    obtain ⟨its, r, ht, hz⟩ := I5.tuple ha
    have hlen := r.length
    show wpAny (model X.prog X.w) X.A (subscriptTail e (.Slice none none (some (.UnaryOp .USub (.Constant (.int 1) k p1) p2)) p3) (.ref a) (.ref s4.heap.objs.size)) (EP X pins σ Q) X.xe { s4 with heap := s4.heap.push { cls := .type "slice", data := .fields #[vl, vu, vs] } }
    refine tail_any (ops := [.ref a, .ref s4.heap.objs.size]) ht.typeIs (PyProof.Rows.slot_tuple_getitem.lookup) ?_ (by with_unfolding_all rfl)
    refine getItem_tuple_rev ht (Heap.IsSliceOf.new _ vl vu vs) pl pu ps ?_ (by rw [List.size_toArray]; omega)
    refine ⟨.ref _, _, I5.laid (t' := s4.toks) (o := .tup ws.reverse) (fun b ob q => Heap.get?_push_of_some _ q) (Nat.le_refl _) ?_, rfl, q _ _ (.tup (I5.hok.fresh (Nat.le_refl _)) da.reverse)⟩
    exact ⟨by rw [List.length_reverse]; exact hz, _, r.reverse, IsTup.new _ _⟩
theorem pd_rev {e : Expr} {x : Ex} {k : Nat} {p1 p2 p3 pos : Pos} (he : PD X xr W e (evE cx x)) : PD X xr W (.Subscript e (.Slice none none (some (.UnaryOp .USub (.Constant (.int 1) k p1) p2)) p3) pos) (evE cx (.rev x)) := by
  obtain ⟨t, p, kk⟩ := he.run
  refine ⟨_, pe_revA p, fun F H O σ ρ Q S w => ?_⟩
  simp only [evE] at w
  refine kk F H O σ ρ _ S (WantG.seq .refl (.refl _) w fun ra ρ1 F1 H1 O1 va S1 _ t1 p1 r1 w => ?_)
  obtain ⟨res, hg, w⟩ := w.lift
  simp only [Option.bind_eq_some_iff] at hg
  obtain ⟨d, hd, hg⟩ := hg
  exact ⟨F1, d, res, cont_ok S1 r1 hd, hg, fun v H' nr => nr.done S1 t1 p1 w⟩
end
end MI
namespace MI
open PySem PySem.Spec PyProof.Rows L2
variable {K : PySem.W.Frag} {F F' : Fz} {H H' : Hp} {O O' : Fz} {σ : L2.St} {ρ ρ' : Env}
/-! ### no stars -/
def noStar : Expr → Bool
  | .Starred _ _ => false
  | _ => true
theorem star_one {e : Expr} (h : noStar e = true) (es : List Expr) (env : PySem.Env) : starEach (e :: es) env = (false, eval e env) :: starEach es env := by
  cases e <;> first | rfl | cases h
theorem star_no : ∀ {es : List Expr}, es.all noStar = true → ∀ (pos : Pos) (env : PySem.Env), (backTo pos (starEach es env)).any (·.1) = false
  | [], _, _, _ => rfl
  | e :: es, h, pos, env => by
    have h' : noStar e = true ∧ es.all noStar = true := by simpa using h
    rw [star_one h'.1]
    show (false || (backTo pos (starEach es env)).any (·.1)) = false
    rw [Bool.false_or]
    exact star_no h'.2 pos env
section
variable {X : Cx} {xr : XRep} {W : WX} {cx : Cxt}
/-! ### a < b <= c -/
abbrev RunE (X : Cx) (xr : XRep) (W : WX) (t : TE) (ev : Env → Out R) : Prop := ∀ F H O σ ρ Q, StI X.K F H O σ ρ → WantE X.K xr W σ F H O ρ (ev ρ) Q → t σ H Q
theorem chain_run {o p : Cp} {x y z : Ex} {ta tb tc : TE} (ka : RunE X xr W ta (evE cx x)) (kb : RunE X xr W tb (evE cx y)) (kc : RunE X xr W tc (evE cx z)) :
    RunE X xr W (tChain (r2Of X.K fun d e => (opCmp o d e).map fun c => .val (.bool c)) (r2Of X.K fun d e => (opCmp p d e).map fun c => .val (.bool c)) ta tb tc) (evE cx (.chain o p x y z)) := by
  intro F H O σ ρ Q S w
  simp only [evE] at w
  refine ka F H O σ ρ _ S (WantG.seq .refl (.refl _) w fun ra ρ1 F1 H1 O1 va S1 _ t1 p1 r1 w1 => ?_)
  refine kb F1 H1 O1 σ ρ1 _ S1 (WantG.seq t1 p1 w1 fun rb ρ2 F2 H2 O2 vb S2 t12 t2 p2 r2 w2 => ?_)
  cases e : ((ra.cont ρ2).bind fun x => (rb.cont ρ2).bind fun y => opCmp o x y) with
  | none => rw [e] at w2; exact w2.elim
  | some q =>
    rw [e] at w2
    simp only [Option.bind_eq_some_iff] at e
    obtain ⟨dx, hx, dy, hy, hq⟩ := e
    refine ⟨F2, dx, dy, .val (.bool q), cont_ok S2 (r1.stp S1 t12) hx, cont_ok S2 r2 hy, by show (opCmp o dx dy).map _ = _; rw [hq]; rfl, fun v H' nr => ?_⟩
    cases nr with
    | same d =>
      cases d
      refine ⟨q, rfl, ?_⟩
      cases q with
      | false => exact ite_ff (w2 F2 H2 O2 _ S2 t2 p2 (.bl _))
      | true =>
        refine ite_tt ?_
        have w3 : WantE X.K xr W σ F H O ρ ((evE cx z ρ2).bind fun rc ρ => Out.lift ((rb.cont ρ).bind fun y => (rc.cont ρ).bind fun z => (opCmp p y z).map fun c => R.val (.bool c)) ρ) Q := w2
        refine kc F2 H2 O2 σ ρ2 _ S2 (WantG.seq t2 p2 w3 fun rc ρ3 F3 H3 O3 vc S3 t23 t3 p3 r3 w4 => ?_)
        obtain ⟨res, he, w5⟩ := w4.lift
        simp only [Option.bind_eq_some_iff] at he
        obtain ⟨d1, h1, d2, h2, hg⟩ := he
        exact ⟨F3, d1, d2, res, cont_ok S3 (r2.stp S2 t23) h1, cont_ok S3 r3 h2, hg, fun v H' nr => nr.done S3 t3 p3 w5⟩
theorem pd_chain {k : Nat} (hr : Room k X.A) {o p : Cp} {o' p' : CmpOp} {a b c : Expr} {x y z : Ex} {pos : Pos} (h : cpOk o o' = true) (h2 : cpOk p p' = true) (hm : lastMarks [o', p'] [b, c] = false)
    (ha : PD X xr W a (evE cx x)) (hb : PD X xr W b (evE cx y)) (hc : PD X xr W c (evE cx z)) : PD X xr W (.Compare a [o', p'] [b, c] pos) (evE cx (.chain o p x y z)) := by
  obtain ⟨ta, pa, ka⟩ := ha.run
  obtain ⟨tb, pb, kb⟩ := hb.run
  obtain ⟨tc, pc, kc⟩ := hc.run
  exact ⟨_, pe_chain (cmp_ok' hr h) (cmp_ok' hr h2) pa pb pc hm, chain_run ka kb kc⟩
/-- a test by a truth value -/
theorem tst_of {ev : Env → Out R} {Q : Bool → Hp → Prop} (hb : ∀ r ρ', ev ρ = .ok r ρ' → ∃ b, r = .val (.bool b)) (w : WantB K xr W σ F H O ρ ((ev ρ).bind truthR) Q) : WantE K xr W σ F H O ρ (ev ρ) (fun v H' => ∃ k, v = .bl k ∧ Q k H') := by
  cases e : ev ρ with
  | ok r ρ1 =>
    obtain ⟨b, rfl⟩ := hb r ρ1 e
    rw [e] at w
    intro F1 H1 O1 v S1 t1 p1 r1
    cases r1
    exact ⟨b, rfl, w F1 H1 O1 _ S1 t1 p1 rfl⟩
  | ex z ρ1 => rw [e] at w; exact w
  | no => rw [e] at w; exact w
theorem out_bind {α β : Type} {o : Out α} {f : α → Env → Out β} {b : β} {ρ2 : Env} (h : o.bind f = .ok b ρ2) : ∃ a ρ1, o = .ok a ρ1 ∧ f a ρ1 = .ok b ρ2 := by
  cases o with
  | ok a ρ1 => exact ⟨a, ρ1, rfl, h⟩
  | ex x ρ1 => cases h
  | no => cases h
theorem out_lift {α : Type} {o : Option α} {ρ1 ρ2 : Env} {a : α} (h : Out.lift o ρ1 = .ok a ρ2) : o = some a ∧ ρ1 = ρ2 := by
  cases o with
  | none => cases h
  | some b => cases h; exact ⟨rfl, rfl⟩
theorem pdt_chain {k : Nat} (hr : Room k X.A) {o p : Cp} {o' p' : CmpOp} {a b c : Expr} {x y z : Ex} {pos : Pos} (h : cpOk o o' = true) (h2 : cpOk p p' = true) (hm : lastMarks [o', p'] [b, c] = false)
    (ha : PD X xr W a (evE cx x)) (hb : PD X xr W b (evE cx y)) (hc : PD X xr W c (evE cx z)) : PDt X xr W (.Compare a [o', p'] [b, c] pos) (fun ρ => (evE cx (.chain o p x y z) ρ).bind truthR) := by
  obtain ⟨ta, pa, ka⟩ := ha.run
  obtain ⟨tb, pb, kb⟩ := hb.run
  obtain ⟨tc, pc, kc⟩ := hc.run
  refine ⟨_, pt_chain (cmp_ok' hr h) (cmp_ok' hr h2) pa pb pc hm, fun F H O σ ρ Q S w => chain_run ka kb kc F H O σ ρ _ S (tst_of (fun r ρ' e => ?_) w)⟩
  simp only [evE] at e
  obtain ⟨ra, ρ1, _, e⟩ := out_bind e
  obtain ⟨rb, ρ2, _, e⟩ := out_bind e
  obtain ⟨q, ρ3, _, e⟩ := out_bind e
  cases q with
  | false => cases e; exact ⟨false, rfl⟩
  | true =>
    obtain ⟨rc, ρ4, _, e⟩ := out_bind (show (Out.bind _ _) = _ from e)
    obtain ⟨e, _⟩ := out_lift e
    simp only [Option.bind_eq_some_iff, Option.map_eq_some_iff] at e
    obtain ⟨_, _, _, _, c, _, rfl⟩ := e
    exact ⟨c, rfl⟩
/-! ### built-ins -/
def biId : Bi → Option String
  | .len => some "len"
  | .abs => some "abs"
  | .any => some "any"
  | .all => some "all"
  | .max => some "max"
  | .min => some "min"
  | .sum => some "sum"
  | .sorted => some "sorted"
  | _ => none
def biTy : Bi → Option String
  | .int => some "int"
  | .bool => some "bool"
  | .str => some "str"
  | .list => some "list"
  | .tuple => some "tuple"
  | _ => none
/-- the rule of one argument -/
theorem bi1_b {k : Nat} (hr : Room k X.A) (hc : X.calm = true) {f : Bi} {id : String} (h : biId f = some id) : CallR X (.builtin id) (rB1 X.K (opB1 f)) := by
  cases f <;> first
    | (cases h; exact len_ok)
    | (cases h; exact abs_ok)
    | (cases h; exact any_ok hc)
    | (cases h; exact all_ok hc)
    | (cases h; exact max_ok hr)
    | (cases h; exact min_ok hr)
    | (cases h; exact sum_ok hr hc)
    | (cases h; exact sorted_ok hr)
    | (cases h; done)
theorem bi1_t {f : Bi} {id : String} (h : biTy f = some id) : CallR X (.type id) (rB1 X.K (opB1 f)) := by
  cases f <;> first
    | (cases h; exact int_ok1)
    | (cases h; exact bool_ok1)
    | (cases h; exact str_ok1)
    | (cases h; exact list_ok1)
    | (cases h; exact tuple_ok1)
    | (cases h; done)
theorem pd_b1 {f : Bi} {a e : Expr} {x : Ex} (mk : ∀ ta, PA X [a] ta → PE X e (tCB (rB1 X.K (opB1 f)) ta)) (hs : noStar a = true) (ha : PD X xr W a (evE cx x)) : PD X xr W e (evE cx (.bi1 f x)) := by
  obtain ⟨ta, pa, ka⟩ := ha.run
  refine ⟨_, mk _ (pa_cons pa pa_nil (star_one hs _ _)), fun F H O σ ρ Q S w => ?_⟩
  simp only [evE] at w
  refine ka F H O σ ρ _ S (WantG.seq .refl (.refl _) w fun ra ρ1 F1 H1 O1 va S1 _ t1 p1 r1 w => ?_)
  obtain ⟨res, he, w⟩ := w.lift
  simp only [Option.bind_eq_some_iff] at he
  obtain ⟨d, hd, hg⟩ := he
  exact ⟨F1, va, d, res, rfl, cont_ok S1 r1 hd, hg, fun v H' nr => nr.done S1 t1 p1 w⟩
theorem pd_bi1 {k : Nat} (hr : Room k X.A) (hc : X.calm = true) {f : Bi} {id : String} {n : Str} {a : Expr} {x : Ex} {p pos : Pos} (h : biId f = some id) (hg : Gl X n) (hm : X.mg n = none) (hv : bootBuiltins n = some (.builtin id)) (hn : n ≠ "__name__") (hdb : (n == ("__debug__" : Str)) = false)
    (hs : noStar a = true) (ha : PD X xr W a (evE cx x)) : PD X xr W (.Call (.Name n p) [a] [] pos) (evE cx (.bi1 f x)) :=
  pd_b1 (fun ta pa => pe_callB (bi1_b hr hc h) hg hm hv pa hn hdb (star_one hs _ _) rfl) hs ha
theorem pd_ty1 {f : Bi} {id : String} {n : Str} {a : Expr} {x : Ex} {p pos : Pos} (h : biTy f = some id) (hg : Gl X n) (hm : X.mg n = none) (hv : bootBuiltins n = some (.type id)) (hn : n ≠ "__name__") (hdb : (n == ("__debug__" : Str)) = false)
    (hs : noStar a = true) (ha : PD X xr W a (evE cx x)) : PD X xr W (.Call (.Name n p) [a] [] pos) (evE cx (.bi1 f x)) :=
  pd_b1 (fun ta pa => pe_callTy (bi1_t h) hg hm hv pa hn hdb (star_one hs _ _) rfl) hs ha
theorem bi2_b (hc : X.calm = true) {f : Bi} {id : String} (h : biId f = some id) (h2 : f = .max ∨ f = .min) : CallR X (.builtin id) (rB2 X.K (opB2 f)) := by
  rcases h2 with rfl | rfl
  · cases h; exact max2_ok hc
  · cases h; exact min2_ok hc
theorem pd_bi2 (hc : X.calm = true) {f : Bi} {id : String} {n : Str} {a b : Expr} {x y : Ex} {p pos : Pos} (h : biId f = some id) (h2 : f = .max ∨ f = .min) (hg : Gl X n) (hm : X.mg n = none) (hv : bootBuiltins n = some (.builtin id)) (hn : n ≠ "__name__") (hdb : (n == ("__debug__" : Str)) = false)
    (hs : noStar a = true) (hs2 : noStar b = true) (ha : PD X xr W a (evE cx x)) (hb : PD X xr W b (evE cx y)) : PD X xr W (.Call (.Name n p) [a, b] [] pos) (evE cx (.bi2 f x y)) := by
  obtain ⟨ta, pa, ka⟩ := ha.run
  obtain ⟨tb, pb, kb⟩ := hb.run
  refine ⟨_, pe_callB (bi2_b hc h h2) hg hm hv (pa_cons pa (pa_cons pb pa_nil (star_one hs2 _ _)) (star_one hs _ _)) hn hdb (star_one hs _ _) (star_no (by simp [hs2]) _ _), fun F H O σ ρ Q S w => ?_⟩
  simp only [evE] at w
  refine ka F H O σ ρ _ S (WantG.seq .refl (.refl _) w fun ra ρ1 F1 H1 O1 va S1 _ t1 p1 r1 w => ?_)
  refine kb F1 H1 O1 σ ρ1 _ S1 (WantG.seq t1 p1 w fun rb ρ2 F2 H2 O2 vb S2 t12 t2 p2 r2 w => ?_)
  obtain ⟨res, he, w⟩ := w.lift
  simp only [Option.bind_eq_some_iff] at he
  obtain ⟨d, hd, e, he, hg⟩ := he
  exact ⟨F2, va, vb, d, e, res, rfl, cont_ok S2 (r1.stp S1 t12) hd, cont_ok S2 r2 he, hg, fun v H' nr => nr.done S2 t2 p2 w⟩
/-! ### isinstance -/
theorem cls_all : ∀ ts : List Ty, Paired ClsV (ts.map fun t => V.ty (tyId t)) (ts.map fun t => Value.type (tyId t))
  | [] => .nil
  | t :: ts => .cons (.ty _) (cls_all ts)
/-- the name of a type, as written -/
def tyNm : Ty → Expr → Bool
  | t, .Name n _ => n == Str.ofString (tyId t)
  | _, _ => false
theorem tyNm_ok {t : Ty} {e : Expr} (h : tyNm t e = true) : ∃ p, e = .Name (Str.ofString (tyId t)) p := by
  cases e <;> first | (cases h; done) | skip
  rename_i n p
  have : n = Str.ofString (tyId t) := by simpa [tyNm] using h
  exact ⟨p, by rw [this]⟩
theorem ty_boot (t : Ty) : bootBuiltins (Str.ofString (tyId t)) = some (.type (tyId t)) := by cases t <;> decide +kernel
theorem ty_nm (t : Ty) : Str.ofString (tyId t) ≠ "__name__" := by cases t <;> decide +kernel
theorem ty_db (t : Ty) : (Str.ofString (tyId t) == ("__debug__" : Str)) = false := by cases t <;> decide +kernel
theorem pe_tyn {t : Ty} {p : Pos} (hg : Gl X (Str.ofString (tyId t))) (hm : X.mg (Str.ofString (tyId t)) = none) : PE X (.Name (Str.ofString (tyId t)) p) (tC (.ty (tyId t))) :=
  pe_bltn hg hm (ty_boot t) rfl (ty_nm t) (ty_db t)
theorem isi_boot : bootBuiltins "isinstance" = some (.builtin "isinstance") := by decide +kernel
theorem pd_isa1 {a c : Expr} {x : Ex} {t : Ty} {p pos : Pos} (hg : Gl X "isinstance") (hm : X.mg "isinstance" = none) (hg2 : Gl X (Str.ofString (tyId t))) (hm2 : X.mg (Str.ofString (tyId t)) = none) (ht : tyNm t c = true)
    (hs : noStar a = true) (ha : PD X xr W a (evE cx x)) : PD X xr W (.Call (.Name "isinstance" p) [a, c] [] pos) (evE cx (.isa x [t] false)) := by
  obtain ⟨q, rfl⟩ := tyNm_ok ht
  obtain ⟨ta, pa, ka⟩ := ha.run
  refine ⟨_, pe_callB call_isi hg hm isi_boot (pa_cons pa (pa_cons (pe_tyn hg2 hm2) pa_nil (star_one rfl _ _)) (star_one hs _ _)) (by decide +kernel) (by decide +kernel) (star_one hs _ _) (star_no rfl _ _), fun F H O σ ρ Q S w => ?_⟩
  simp only [evE] at w
  refine ka F H O σ ρ _ S (WantG.seq .refl (.refl _) w fun ra ρ1 F1 H1 O1 va S1 _ t1 p1 r1 w => ?_)
  obtain ⟨res, he, w⟩ := w.lift
  simp only [Option.map_eq_some_iff] at he
  obtain ⟨d, hd, rfl⟩ := he
  refine ⟨va, _, _, _, _, rfl, .ty _, (cont_ok S1 r1 hd).ty, kit_tab d t, ?_⟩
  refine w F1 H1 O1 _ S1 t1 p1 ?_
  simp only [List.any_cons, List.any_nil, Bool.or_false]
  exact .bl _
def tyNms : List Ty → List Expr → Bool
  | [], [] => true
  | t :: ts, e :: es => tyNm t e && tyNms ts es
  | _, _ => false
theorem pa_tys : ∀ {ts : List Ty} {es : List Expr}, tyNms ts es = true → (∀ t ∈ ts, Gl X (Str.ofString (tyId t)) ∧ X.mg (Str.ofString (tyId t)) = none) →
    ∃ t, PA X es t ∧ ∀ σ H Q, Q (ts.map fun t => V.ty (tyId t)) H → t σ H Q
  | [], [], _, _ => ⟨_, pa_nil, fun _ _ _ q => q⟩
  | t :: ts, e :: es, h, g => by
    have h' : tyNm t e = true ∧ tyNms ts es = true := by simpa [tyNms] using h
    obtain ⟨q, rfl⟩ := tyNm_ok h'.1
    obtain ⟨tt, pt, kt⟩ := pa_tys h'.2 fun t' m => g t' (List.mem_cons_of_mem _ m)
    obtain ⟨g1, g2⟩ := g t List.mem_cons_self
    exact ⟨_, pa_cons (pe_tyn g1 g2) pt (star_one rfl _ _), fun σ H Q q => kt σ H _ q⟩
  | [], _ :: _, h, _ => by cases h
  | _ :: _, [], h, _ => by cases h
theorem pd_isa2 {a : Expr} {es : List Expr} {x : Ex} {ts : List Ty} {j : Nat} {p p2 pos : Pos} (hg : Gl X "isinstance") (hm : X.mg "isinstance" = none) (hg2 : ∀ t ∈ ts, Gl X (Str.ofString (tyId t)) ∧ X.mg (Str.ofString (tyId t)) = none) (ht : tyNms ts es = true) (hl : ts.length ≤ 6)
    (hs : noStar a = true) (ha : PD X xr W a (evE cx x)) : PD X xr W (.Call (.Name "isinstance" p) [a, .Tuple es j p2] [] pos) (evE cx (.isa x ts true)) := by
  obtain ⟨ta, pa, ka⟩ := ha.run
  obtain ⟨tt, pt, kt⟩ := pa_tys (X := X) ht hg2
  refine ⟨_, pe_callB call_isiT hg hm isi_boot (pa_cons pa (pa_cons (pe_tup pt) pa_nil (star_one rfl _ _)) (star_one hs _ _)) (by decide +kernel) (by decide +kernel) (star_one hs _ _) (star_no rfl _ _), fun F H O σ ρ Q S w => ?_⟩
  simp only [evE] at w
  refine ka F H O σ ρ _ S (WantG.seq .refl (.refl _) w fun ra ρ1 F1 H1 O1 va S1 _ t1 p1 r1 w => ?_)
  obtain ⟨res, he, w⟩ := w.lift
  simp only [Option.map_eq_some_iff] at he
  obtain ⟨d, hd, rfl⟩ := he
  refine kt σ H1 _ ⟨by rw [List.length_map, ← lim_eq]; simp only [Lim]; omega, fun q hq => ?_⟩
  have S2 : StI X.K F1 (upd H1 q (.tup (ts.map fun t => V.ty (tyId t)))) O1 σ ρ1 := S1.laid hq
  have t2 := stp_laid (F := F1) (O := O1) (o := HO.tup (ts.map fun t => V.ty (tyId t))) hq
  refine ⟨va, q, _, _, _, _, rfl, upd_same, cls_all ts, (cont_ok S2 (r1.stp S1 t2) hd).ty, kit_any d ts, ?_⟩
  exact w F1 _ O1 _ S2 (t1.trans t2) p1 (.bl _)
end
end MI
namespace MI
open PySem PySem.Spec PyProof.Rows L2
variable {K : PySem.W.Frag} {F F' : Fz} {H H' : Hp} {O O' : Fz} {σ : L2.St} {ρ ρ' : Env}
/-! ### an own list is changed in place -/
theorem ext_own {a : Addr} {o : HO} (S : StI K F H O σ ρ) (oa : O a) : Ext F H F (upd H a o) := fun b f => ⟨f, upd_ne fun e => (S.odom a oa).2 (e ▸ f)⟩
theorem stp_own {a : Addr} {o : HO} (oa : O a) : Stp F H O F (upd H a o) O where
  fz := fun _ h => h
  fz' := fun _ h => .inl h
  ow := fun _ h => .inl h
  hp := fun b _ n => upd_ne fun e => n (e ▸ oa)
  all := fun b h => by
    by_cases e : b = a
    · subst e; rw [upd_same]; simp
    · rw [upd_ne e]; exact h
theorem StI.chg {i : Nat} {m m' : M} {a : Addr} {o : HO} (S : StI K F H O σ ρ) (e : ρ.get i = some m) (w : m.isOwn = true) (hv : σ[i]? = some (some (.ref a))) (hm : RepM K F (upd H a o) O (.ref a) m') (w' : m'.isOwn = true) :
    StI K F (upd H a o) O σ (ρ.set i (some m')) := by
  have oa : O a := by
    obtain ⟨v, h1, h2⟩ := S.var i m e
    obtain ⟨b, h3, h4⟩ := h2.own w
    rw [hv] at h1
    cases h1
    cases h3
    exact h4
  have x := ext_own (o := o) S oa
  have tt := stp_own (F := F) (H := H) (o := o) oa
  refine ⟨by rw [List.length_set]; exact S.len, fun j mj ej => ?_, fun b f => tt.all b (S.dom b f), fun b q => ⟨tt.all b (S.odom b q).1, (S.odom b q).2⟩, fun j k b m1 m2 ne e1 e2 o1 o2 h1 h2 => ?_⟩
  · rcases get_set_cases ej with ⟨rfl, q⟩ | ⟨ne, q⟩
    · cases q
      exact ⟨_, hv, hm⟩
    · obtain ⟨v, h1, h2⟩ := S.var j mj q
      refine ⟨v, h1, ?_⟩
      have apart : ∀ b, v = .ref b → mj.isOwn = true → b ≠ a := fun b eb ob eba => by
        subst eba eb
        exact S.sep i j b m mj ne e q w ob hv h1
      cases mj with
      | sh d => exact Dat.ext x h2
      | ol p xs =>
        obtain ⟨b, vs, eb, ob, hb, hd⟩ := h2
        exact ⟨b, vs, eb, ob, (upd_ne (apart b eb rfl)).trans hb, Dats.ext x hd⟩
      | od p xs =>
        obtain ⟨b, vs, eb, ob, hb, hd, hd2⟩ := h2
        exact ⟨b, vs, eb, ob, (upd_ne (apart b eb rfl)).trans hb, Dats.ext x hd, Dats.ext x hd2⟩
      | ob C fs => exact h2
      | sc ns =>
        obtain ⟨b, eb, h⟩ := h2
        rcases h with ⟨f, r⟩ | r
        · exact ⟨b, eb, .inl ⟨f, Rd.ext (x b f).2 r⟩⟩
        · exact ⟨b, eb, .inr r⟩
  · have k1 : ∃ m1', ρ.get j = some m1' ∧ m1'.isOwn = true := by
      rcases get_set_cases e1 with ⟨rfl, q⟩ | ⟨n1, q1⟩
      · exact ⟨m, e, w⟩
      · exact ⟨m1, q1, o1⟩
    have k2 : ∃ m2', ρ.get k = some m2' ∧ m2'.isOwn = true := by
      rcases get_set_cases e2 with ⟨rfl, q⟩ | ⟨n1, q1⟩
      · exact ⟨m, e, w⟩
      · exact ⟨m2, q1, o2⟩
    obtain ⟨m1', c1, d1⟩ := k1
    obtain ⟨m2', c2, d2⟩ := k2
    exact S.sep j k b m1' m2' ne c1 c2 d1 d2 h1 h2
theorem StI.ol {i : Nat} {p : Bool} {xs : List D} (S : StI K F H O σ ρ) (e : ρ.get i = some (.ol p xs)) : ∃ a vs, σ[i]? = some (some (.ref a)) ∧ O a ∧ H a = some (.lst vs) ∧ Dats K F H vs xs := by
  obtain ⟨v, h1, a, vs, rfl, h2, h3, h4⟩ := S.var i _ e
  exact ⟨a, vs, h1, h2, h3, h4⟩
theorem StI.chgL {i : Nat} {p : Bool} {xs ys : List D} {a : Addr} {ws : List V} (S : StI K F H O σ ρ) (e : ρ.get i = some (.ol p xs)) (hv : σ[i]? = some (some (.ref a))) (oa : O a) (hd : Dats K F H ws ys) :
    StI K F (upd H a (.lst ws)) O σ (ρ.set i (some (.ol p ys))) := S.chg e rfl hv ⟨a, ws, rfl, oa, upd_same, Dats.ext (ext_own S oa) hd⟩ rfl
theorem pin_chg {i : Nat} {p : Bool} {xs ys : List D} (e : ρ.get i = some (.ol p xs)) : Pin ρ (ρ.set i (some (.ol p ys))) := by
  refine ⟨List.length_set, fun j m ej pj => ?_⟩
  by_cases q : i = j
  · subst q
    rw [e] at ej
    cases ej
    exact ⟨.ol p ys, get_set_self (get_lt e), pj⟩
  · exact ⟨m, (get_set_ne q).trans ej, pj⟩
/-- beside everything -/
theorem StI.side {a : Addr} {o : HO} (S : StI K F H O σ ρ) (nf : ¬ F a) (no : ¬ O a) : StI K F (upd H a o) O σ ρ := by
  have x : Ext F H F (upd H a o) := fun b f => ⟨f, upd_ne fun e => nf (e ▸ f)⟩
  have kp : ∀ b, H b ≠ none → upd H a o b ≠ none := fun b h => by
    by_cases e : b = a
    · subst e; rw [upd_same]; simp
    · rw [upd_ne e]; exact h
  refine ⟨S.len, fun j mj ej => ?_, fun b f => kp b (S.dom b f), fun b q => ⟨kp b (S.odom b q).1, (S.odom b q).2⟩, S.sep⟩
  obtain ⟨v, h1, h2⟩ := S.var j mj ej
  refine ⟨v, h1, ?_⟩
  cases mj with
  | sh d => exact Dat.ext x h2
  | ol p xs =>
    obtain ⟨b, vs, eb, ob, hb, hd⟩ := h2
    exact ⟨b, vs, eb, ob, (upd_ne fun (e : b = a) => no (e ▸ ob)).trans hb, Dats.ext x hd⟩
  | od p xs =>
    obtain ⟨b, vs, eb, ob, hb, hd, hd2⟩ := h2
    exact ⟨b, vs, eb, ob, (upd_ne fun (e : b = a) => no (e ▸ ob)).trans hb, Dats.ext x hd, Dats.ext x hd2⟩
  | ob C fs => exact h2
  | sc ns =>
    obtain ⟨b, eb, h⟩ := h2
    rcases h with ⟨f, r⟩ | r
    · exact ⟨b, eb, .inl ⟨f, Rd.ext (x b f).2 r⟩⟩
    · exact ⟨b, eb, .inr r⟩
section
variable {X : Cx} {xr : XRep} {W : WX} {cx : Cxt}
/-! ### o.append(..) and its like -/
def muId : Mu → String
  | .append => "list.append"
  | .extend => "list.extend"
  | .pop => "list.pop"
  | .popAt => "list.pop"
  | .reverse => "list.reverse"
  | .insert => "list.insert"
  | .remove => "list.remove"
def muNm : Mu → Str
  | .append => "append"
  | .extend => "extend"
  | .pop => "pop"
  | .popAt => "pop"
  | .reverse => "reverse"
  | .insert => "insert"
  | .remove => "remove"
theorem mu_slot (m : Mu) : Slot "list" (muNm m) (muId m) := by
  cases m with
  | append => exact PySem.F.slot_list_append
  | extend => exact PySem.F.slot_list_extend
  | pop => exact PySem.F.slot_list_pop
  | popAt => exact PySem.F.slot_list_pop
  | reverse => exact PySem.F.slot_list_reverse
  | insert => exact PySem.F.slot_list_insert
  | remove => exact PySem.F.slot_list_remove
theorem mu_ty (m : Mu) : typeOf (.builtin (muId m)) = pure (.type "method_descriptor") := by
  cases m with
  | append => exact PySem.F.type_list_append
  | extend => exact PySem.F.type_list_extend
  | pop => exact PySem.F.type_list_pop
  | popAt => exact PySem.F.type_list_pop
  | reverse => exact PySem.F.type_list_reverse
  | insert => exact PySem.F.type_list_insert
  | remove => exact PySem.F.type_list_remove
/-- a list is changed -/
def rMu (K : PySem.W.Frag) (m : Mu) : V → List V → Hp → VK → Prop := fun x vs H Q => ∃ F a ws ds xs d ys, x = .ref a ∧ H a = some (.lst ws) ∧ Dats K F H ws xs ∧ Dats K F H vs ds ∧ opMu m xs ds = some (d, ys) ∧
  ∀ v zs, Dat K F H v d → Dats K F H zs ys → Q v (upd H a (.lst zs))
theorem ix_seq {n : Nat} {i : Int} {k : Nat} (h : ixOf n i = some k) : seqIndex? i n = some k := by
  unfold ixOf at h
  unfold seqIndex?
  split at h
  · split at h
    · rename_i h1 h2
      have e : ¬ i < 0 := by omega
      cases h
      simp [e, h1, h2]
    · cases h
  · split at h
    · rename_i h1 h2
      have e : i < 0 := by omega
      cases h
      have e1 : 0 ≤ i + (n : Int) := by omega
      have e2 : i + (n : Int) < n := by omega
      simp [e, e1, e2]
    · cases h
theorem mu_ok (m : Mu) : MtR X (muId m) (rMu X.K m) := by
  intro pins s σ H x vs v us Q I rx rv h
  obtain ⟨F, a, ws, ds, xs, d, ys, rfl, ha, dw, dv, hg, q⟩ := h
  have hl := dw.length
  cases m with
  | append =>
    cases dv with
    | nil => cases hg
    | cons h1 h2 => cases h2 with
      | cons _ _ => cases hg
      | nil =>
        obtain ⟨g1, g2⟩ := gd_some hg
        cases g2
        exact mt_append pins s σ H _ _ v us Q I rx rv ⟨a, ws, _, rfl, rfl, ha, by rw [hl, ← lim_eq]; simpa using g1, q _ _ .non (dw.append (.one h1))⟩
  | extend =>
    cases dv with
    | nil => cases hg
    | cons h1 h2 => cases h2 with
      | cons _ _ => rename_i d0 _ _ _ _ _ _; cases d0 <;> cases hg
      | nil =>
        rename_i v0 d0
        cases d0 <;> try (cases hg; done)
        obtain ⟨g1, g2⟩ := gd_some hg
        cases g2
        obtain ⟨b, zs, rfl, hb, dz⟩ := (Dat1.sh h1).lst
        exact mt_extend pins s σ H _ _ v us Q I rx rv ⟨a, b, ws, zs, rfl, rfl, ha, hb, by rw [hl, dz.length, ← lim_eq]; simpa using g1, q _ _ .non (dw.append dz)⟩
  | pop =>
    cases dv with
    | cons h1 h2 => cases hg
    | nil =>
      change (xs.getLast?.map fun y => (y, xs.dropLast)) = some (d, ys) at hg
      simp only [Option.map_eq_some_iff] at hg
      obtain ⟨y, hy, e⟩ := hg
      cases e
      rw [List.getLast?_eq_getElem?] at hy
      obtain ⟨w, hw, dw1⟩ := dw.get hy
      exact mt_pop pins s σ H _ _ v us Q I rx rv ⟨a, ws, w, rfl, rfl, ha, by rw [hl]; exact hw, q _ _ dw1 dw.dropLast⟩
  | popAt =>
    cases dv with
    | nil => cases hg
    | cons h1 h2 => cases h2 with
      | cons _ _ => rename_i d0 _ _ _ _ _ _; cases d0 <;> cases hg
      | nil =>
        rename_i v0 d0
        cases d0 <;> try (cases hg; done)
        rename_i i
        cases (Dat1.sh h1).int
        change ((gd (decide (i.natAbs < 2 ^ 62)) ()).bind fun _ => (ixOf xs.length i).bind fun k => (xs[k]?).map fun y => (y, xs.eraseIdx k)) = some (d, ys) at hg
        simp only [Option.bind_eq_some_iff, Option.map_eq_some_iff] at hg
        obtain ⟨_, g1, k, hk, y, hy, e⟩ := hg
        cases e
        obtain ⟨g1, _⟩ := gd_some g1
        have g1 : i.natAbs < 2 ^ 62 := by simpa using g1
        obtain ⟨w, hw, dw1⟩ := dw.get hy
        exact mt_popAt pins s σ H _ _ v us Q I rx rv ⟨a, ws, i, k, w, rfl, rfl, ha, by omega, by omega, by rw [hl]; exact ix_seq hk, hw, q _ _ dw1 (dw.eraseIdx k)⟩
  | insert => cases hg
  | remove => cases hg
  | reverse =>
    cases dv with
    | cons h1 h2 => cases hg
    | nil =>
      cases hg
      exact mt_reverse pins s σ H _ _ v us Q I rx rv ⟨a, ws, rfl, rfl, ha, q _ _ .non dw.reverse⟩
/-- what is done with an own list by its method -/
theorem mu_run {m : Mu} {i : Nat} {xs : List Ex} {t : TA} {te : TE} (kt : ∀ F H O σ ρ Q, StI X.K F H O σ ρ → WantDs X.K xr W σ F H O ρ (evDs cx xs ρ) Q → t σ H Q)
    (ht : ∀ σ H Q, (∃ a, σ[i]? = some (some (.ref a)) ∧ tyV X.K "list" (.ref a) H ∧ t σ H fun vs H2 => rMu X.K m (.ref a) vs H2 Q) → te σ H Q) : RunE X xr W te (evE cx (.mu m i xs)) := by
  intro F H O σ ρ Q S w
  simp only [evE] at w
  split at w
  · rename_i p ys e
    obtain ⟨a, vs, ha, oa, hl, dl⟩ := S.ol e
    refine ht σ H Q ⟨a, ha, .inl ⟨rfl, vs, SqL.of hl⟩, ?_⟩
    refine kt F H O σ ρ _ S (WantG.seq .refl (.refl _) w fun ds ρ1 F1 H1 O1 ws S1 _ t1 p1 r1 w => ?_)
    split at w
    · rename_i p1' zs e1
      obtain ⟨b, us, hb, ob, hu, du⟩ := S1.ol e1
      have : b = a := by rw [ha] at hb; cases hb; rfl
      subst this
      split at w
      · rename_i d ys2 hg
        refine ⟨F1, b, us, ds, zs, d, ys2, rfl, hu, du, r1, hg, fun v zs' hv hz => ?_⟩
        have S2 := S1.chgL e1 hb ob hz
        exact w F1 _ O1 v S2 (t1.trans (stp_own ob)) (p1.trans (pin_chg e1)) (Dat.ext (ext_own S1 ob) hv)
      · exact w.elim
    · exact w.elim
  · exact w.elim
theorem pd_mu1 {m : Mu} {i : Nat} {y : Str} {a : Expr} {x : Ex} {p apos cpos : Pos} (hN : X.N[i]? = some y) (hv : Vis X.env.scope y) (hd : (y == ("__debug__" : Str)) = false) (hcd : (y == ("__classdict__" : Str)) = false)
    (hs : noStar a = true) (hl : (apos.endLine == cpos.line) = true) (ha : PD X xr W a (evE cx x)) : PD X xr W (.Call (.Attribute (.Name y p) (muNm m) apos) [a] [] cpos) (evE cx (.mu m i [x])) := by
  obtain ⟨t, pt, kt⟩ := (pds_cons (star_one hs _ _) ha (pds_nil (cx := cx))).run
  refine ⟨_, pe_bm PySem.F.plainAttrs_list (mu_slot m) (mu_ty m) (mu_ok m) (pe_var hN hv hd hcd) pt rfl (by rw [star_one hs]; rfl) hl (star_one hs _ _) rfl, ?_⟩
  exact mu_run kt fun σ H Q ⟨a, h1, h2, h3⟩ => ⟨_, h1, h2, h3⟩
theorem pd_mu0 {m : Mu} {i : Nat} {y : Str} {p apos cpos : Pos} (hN : X.N[i]? = some y) (hv : Vis X.env.scope y) (hd : (y == ("__debug__" : Str)) = false) (hcd : (y == ("__classdict__" : Str)) = false)
    (hl : (apos.endLine == cpos.line) = true) : PD X xr W (.Call (.Attribute (.Name y p) (muNm m) apos) [] [] cpos) (evE cx (.mu m i [])) := by
  obtain ⟨t, pt, kt⟩ := (pds_nil (X := X) (xr := xr) (W := W) (cx := cx)).run
  refine ⟨_, pe_bm0 PySem.F.plainAttrs_list (mu_slot m) (mu_ty m) (mu_ok m) (pe_var hN hv hd hcd) rfl hl, ?_⟩
  refine mu_run (t := tNil) (fun F H O σ ρ Q S w => ?_) fun σ H Q ⟨a, h1, h2, h3⟩ => ⟨_, h1, h2, h3⟩
  simp only [evDs] at w
  exact w F H O _ S .refl (.refl _) .nil
end
end MI
namespace MI
open PySem PySem.Spec PyProof.Rows L2
variable {K : PySem.W.Frag} {F F' : Fz} {H H' : Hp} {O O' : Fz} {σ : L2.St} {ρ ρ' : Env}
/-! ### the weakest readings -/
def canE (K : PySem.W.Frag) (xr : XRep) (W : WX) (ev : Env → Out R) : TE := fun σ H Q => ∃ F O ρ, StI K F H O σ ρ ∧ WantE K xr W σ F H O ρ (ev ρ) Q
def canT (K : PySem.W.Frag) (xr : XRep) (W : WX) (ev : Env → Out Bool) : TT := fun σ H Q => ∃ F O ρ, StI K F H O σ ρ ∧ WantB K xr W σ F H O ρ (ev ρ) Q
theorem PD.can {X : Cx} {xr : XRep} {W : WX} {e : Expr} {ev : Env → Out R} (h : PD X xr W e ev) : PE X e (canE X.K xr W ev) := by
  obtain ⟨t, p, k⟩ := h.run
  exact ⟨fun pins s σ H Q I ⟨F, O, ρ, S, w⟩ => p.run pins s σ H Q I (k F H O σ ρ Q S w)⟩
theorem PDt.can {X : Cx} {xr : XRep} {W : WX} {e : Expr} {ev : Env → Out Bool} (h : PDt X xr W e ev) : PT X e (canT X.K xr W ev) := by
  obtain ⟨t, p, k⟩ := h.run
  exact ⟨fun pins s σ H Q I ⟨F, O, ρ, S, w⟩ => p.run pins s σ H Q I (k F H O σ ρ Q S w)⟩
/-! ### what is walked -/
structure WalkD (K : PySem.W.Frag) (F0 : Fz) (H0 : Hp) (J : L2.It) (ds : List D) : Prop where
  go : ∀ i F H, Ext F0 H0 F H → i < ds.length → J.go i H
  stop : ∀ F H, Ext F0 H0 F H → J.stop ds.length H
  yld : ∀ i d F H x H', Ext F0 H0 F H → ds[i]? = some d → J.yld i H x H' → NewR K F H x H' (.val d)
structure PDi (X : Cx) (xr : XRep) (W : WX) (tg it : Expr) (ev : Env → Out (List D)) : Prop where
  run : ∃ wi : TI, PI X tg it wi ∧ ∀ F H O σ ρ R, StI X.K F H O σ ρ → WantG X.K xr W (fun F' H' O' J ds => WalkD X.K F' H' J ds) σ F H O ρ (ev ρ) R → wi σ H R
/-- at a shared list, tuple -/
inductive SeqAt (K : PySem.W.Frag) (F : Fz) (H : Hp) : V → List D → Prop
  | l {a : Addr} {vs : List V} {ds : List D} : F a → H a = some (.lst vs) → Dats K F H vs ds → SeqAt K F H (.ref a) ds
  | t {a : Addr} {vs : List V} {ds : List D} : (F a ∧ H a = some (.tup vs) ∨ KTup K a vs) → Dats K F H vs ds → SeqAt K F H (.ref a) ds
theorem seq_at {v : V} {d : D} {ds : List D} (h : Dat K F H v d) (e : seqOf d = some ds) : SeqAt K F H v ds := by
  cases h <;> (cases e) <;> first
    | exact .l (by assumption) (by assumption) (by assumption)
    | exact .t (.inl ⟨by assumption, by assumption⟩) (by assumption)
    | exact .t (.inr (by assumption)) (by assumption)
theorem walkd_list {a : Addr} {vs : List V} {ds : List D} (f : F a) (h : H a = some (.lst vs)) (d : Dats K F H vs ds) : WalkD K F H (Itl K a) ds where
  go := fun i F1 H1 x hi => by
    have e : H1 a = some (.lst vs) := (x a f).2.trans h
    have hi' : i < vs.length := by rw [d.length]; exact hi
    exact ⟨vs, vs[i], SqL.of e, by simp [hi']⟩
  stop := fun F1 H1 x => ⟨vs, SqL.of ((x a f).2.trans h), by rw [d.length]; exact Nat.le_refl _⟩
  yld := fun i e F1 H1 y H2 x he hy => by
    obtain ⟨q, hy⟩ := hy
    subst q
    obtain ⟨w, hw, dw⟩ := d.get he
    have := (hy vs (SqL.of ((x a f).2.trans h))).symm.trans hw
    cases this
    exact .same (Dat.ext x dw)
theorem sqT_ext {a : Addr} {vs : List V} (x : Ext F H F' H') (h : F a ∧ H a = some (.tup vs) ∨ KTup K a vs) : SqT K H' a vs := by
  rcases h with ⟨f, h⟩ | h
  · exact SqT.of ((x a f).2.trans h)
  · exact .inr h
theorem walkd_tup {a : Addr} {vs : List V} {ds : List D} (h : F a ∧ H a = some (.tup vs) ∨ KTup K a vs) (d : Dats K F H vs ds) : WalkD K F H (Itt K a) ds where
  go := fun i F1 H1 x hi => by
    have hi' : i < vs.length := by rw [d.length]; exact hi
    exact ⟨vs, vs[i], sqT_ext x h, by simp [hi']⟩
  stop := fun F1 H1 x => ⟨vs, sqT_ext x h, by rw [d.length]; exact Nat.le_refl _⟩
  yld := fun i e F1 H1 y H2 x he hy => by
    obtain ⟨q, hy⟩ := hy
    subst q
    obtain ⟨w, hw, dw⟩ := d.get he
    have := (hy vs (sqT_ext x h)).symm.trans hw
    cases this
    exact .same (Dat.ext x dw)
theorem rngD_get {lo c : Int} {n i : Nat} {d : D} (h : (rngD lo n c)[i]? = some d) : i < n ∧ d = .int (lo + (i : Int) * c) := by
  unfold rngD at h
  rw [List.getElem?_map] at h
  by_cases hi : i < n
  · rw [List.getElem?_range hi] at h
    cases h
    exact ⟨hi, rfl⟩
  · rw [List.getElem?_eq_none (by simpa using hi)] at h
    cases h
theorem rngD_len {lo c : Int} {n : Nat} : (rngD lo n c).length = n := by simp [rngD]
theorem walkd_rng {lo : Int} {n : Nat} : WalkD K F H (Itr lo n) (rngD lo n 1) where
  go := fun i F1 H1 x hi => by rw [rngD_len] at hi; exact hi
  stop := fun F1 H1 x => by rw [rngD_len]; exact Nat.le_refl _
  yld := fun i e F1 H1 y H2 x he hy => by
    obtain ⟨q, hy⟩ := hy
    obtain ⟨_, rfl⟩ := rngD_get he
    subst q hy
    rw [Int.mul_one]
    exact .same (.int _)
theorem walkd_rngC {lo c : Int} {n : Nat} : WalkD K F H (Itc lo c n) (rngD lo n c) where
  go := fun i F1 H1 x hi => by rw [rngD_len] at hi; exact hi
  stop := fun F1 H1 x => by rw [rngD_len]; exact Nat.le_refl _
  yld := fun i e F1 H1 y H2 x he hy => by
    obtain ⟨q, hy⟩ := hy
    obtain ⟨_, rfl⟩ := rngD_get he
    subst q hy
    exact .same (.int _)
theorem enumD_len : ∀ (xs : List D) (k : Nat), (enumD k xs).length = xs.length
  | [], _ => rfl
  | x :: xs, k => by simp [enumD, enumD_len xs (k + 1)]
theorem enumD_get : ∀ {xs : List D} {k i : Nat} {d : D}, (enumD k xs)[i]? = some d → ∃ e, xs[i]? = some e ∧ d = .tuple [.int ((k + i : Nat) : Int), e]
  | [], _, _, _, h => by simp [enumD] at h
  | x :: xs, k, 0, d, h => by
    simp [enumD] at h
    exact ⟨x, rfl, h.symm⟩
  | x :: xs, k, i + 1, d, h => by
    obtain ⟨e, h1, h2⟩ := enumD_get (xs := xs) (k := k + 1) (i := i) (by simpa [enumD] using h)
    exact ⟨e, by simpa using h1, by rw [h2, Nat.add_right_comm, Nat.add_assoc k i 1]⟩
theorem walkd_enum {a : Addr} {vs : List V} {ds : List D} (f : F a) (h : H a = some (.lst vs)) (d : Dats K F H vs ds) : WalkD K F H (Ite K a) (enumD 0 ds) where
  go := fun i F1 H1 x hi => by
    have e : H1 a = some (.lst vs) := (x a f).2.trans h
    have hi' : i < vs.length := by rw [d.length]; rw [enumD_len] at hi; exact hi
    exact ⟨vs, vs[i], SqL.of e, by simp [hi']⟩
  stop := fun F1 H1 x => ⟨vs, SqL.of ((x a f).2.trans h), by rw [d.length, enumD_len]; exact Nat.le_refl _⟩
  yld := fun i e F1 H1 y H2 x he hy => by
    obtain ⟨e1, h1, rfl⟩ := enumD_get he
    obtain ⟨T, z, rfl, hT, rfl, hz⟩ := hy
    obtain ⟨w, hw, dw⟩ := d.get h1
    have := (hz vs (SqL.of ((x a f).2.trans h))).symm.trans hw
    cases this
    rw [Nat.zero_add]
    exact .tup hT (.cons (.int _) (.one (Dat.ext x dw)))
theorem zipD_get : ∀ {xs ys : List D} {i : Nat} {d : D}, (zipD xs ys)[i]? = some d → ∃ a b, xs[i]? = some a ∧ ys[i]? = some b ∧ d = .tuple [a, b]
  | [], _, _, _, h => by simp [zipD] at h
  | x :: xs, [], _, _, h => by simp [zipD] at h
  | x :: xs, y :: ys, 0, d, h => by
    simp [zipD] at h
    exact ⟨x, y, rfl, rfl, h.symm⟩
  | x :: xs, y :: ys, i + 1, d, h => by
    obtain ⟨a, b, h1, h2, h3⟩ := zipD_get (xs := xs) (ys := ys) (i := i) (by simpa [zipD] using h)
    exact ⟨a, b, by simpa using h1, by simpa using h2, h3⟩
theorem zipD_len : ∀ (xs ys : List D), (zipD xs ys).length = min xs.length ys.length
  | [], _ => by simp [zipD]
  | x :: xs, [] => by simp [zipD]
  | x :: xs, y :: ys => by simp [zipD, zipD_len xs ys]
theorem walkd_zip {a b : Addr} {vs ws : List V} {ds es : List D} (f : F a) (h : H a = some (.lst vs)) (d : Dats K F H vs ds) (f2 : F b) (h2 : H b = some (.lst ws)) (d2 : Dats K F H ws es) : WalkD K F H (Itz K a b) (zipD ds es) where
  go := fun i F1 H1 x hi => by
    rw [zipD_len] at hi
    have l1 := d.length
    have l2 := d2.length
    have hi1 : i < vs.length := by omega
    have hi2 : i < ws.length := by omega
    exact ⟨vs, ws, vs[i], ws[i], SqL.of ((x a f).2.trans h), SqL.of ((x b f2).2.trans h2), by simp [hi1], by simp [hi2]⟩
  stop := fun F1 H1 x => ⟨vs, ws, SqL.of ((x a f).2.trans h), SqL.of ((x b f2).2.trans h2), by
    have l1 := d.length
    have l2 := d2.length
    rw [zipD_len]
    omega⟩
  yld := fun i e F1 H1 y H2 x he hy => by
    obtain ⟨e1, e2, g1, g2, rfl⟩ := zipD_get he
    obtain ⟨T, z1, z2, rfl, hT, rfl, k1, k2⟩ := hy
    obtain ⟨w1, hw1, dw1⟩ := d.get g1
    obtain ⟨w2, hw2, dw2⟩ := d2.get g2
    have q1 := (k1 vs (SqL.of ((x a f).2.trans h))).symm.trans hw1
    have q2 := (k2 ws (SqL.of ((x b f2).2.trans h2))).symm.trans hw2
    cases q1
    cases q2
    exact .tup hT (.cons (Dat.ext x dw1) (.one (Dat.ext x dw2)))
theorem walkd_zipT {a b : Addr} {vs ws : List V} {ds es : List D} (h : F a ∧ H a = some (.tup vs) ∨ KTup K a vs) (d : Dats K F H vs ds) (h2 : F b ∧ H b = some (.tup ws) ∨ KTup K b ws) (d2 : Dats K F H ws es) : WalkD K F H (RZ.ItzT K a b) (zipD ds es) where
  go := fun i F1 H1 x hi => by
    rw [zipD_len] at hi
    have l1 := d.length
    have l2 := d2.length
    have hi1 : i < vs.length := by omega
    have hi2 : i < ws.length := by omega
    exact ⟨vs, ws, vs[i], ws[i], sqT_ext x h, sqT_ext x h2, by simp [hi1], by simp [hi2]⟩
  stop := fun F1 H1 x => ⟨vs, ws, sqT_ext x h, sqT_ext x h2, by
    have l1 := d.length
    have l2 := d2.length
    rw [zipD_len]
    omega⟩
  yld := fun i e F1 H1 y H2 x he hy => by
    obtain ⟨e1, e2, g1, g2, rfl⟩ := zipD_get he
    obtain ⟨T, z1, z2, rfl, hT, rfl, k1, k2⟩ := hy
    obtain ⟨w1, hw1, dw1⟩ := d.get g1
    obtain ⟨w2, hw2, dw2⟩ := d2.get g2
    have q1 := (k1 vs (sqT_ext x h)).symm.trans hw1
    have q2 := (k2 ws (sqT_ext x h2)).symm.trans hw2
    cases q1
    cases q2
    exact .tup hT (.cons (Dat.ext x dw1) (.one (Dat.ext x dw2)))
theorem bindA {α β γ : Type} (o : Out α) (f : α → Env → Out β) (g : β → Env → Out γ) : (o.bind f).bind g = o.bind fun a ρ => (f a ρ).bind g := by cases o <;> rfl
section
variable {X : Cx} {xr : XRep} {W : WX} {cx : Cxt} {tg : Expr}
/-- a list or a tuple is walked -/
def iBoth (K : PySem.W.Frag) (tl : TE) : TI := fun σ H R => tl σ H fun x H1 => ∃ a, x = .ref a ∧ ((∃ xs, SqL K H1 a xs ∧ R (Itl K a) H1) ∨ (∃ xs, SqT K H1 a xs ∧ R (Itt K a) H1))
theorem pi_both {e : Expr} {te : TE} (he : PE X e te) : PI X tg e (iBoth X.K te) := by
  constructor
  intro pins s σ H R I h
  apply thn (he.run pins s σ H _ I h)
  rintro v s1 ⟨x, H1, I1, r1, a, ex, q1⟩
  subst ex
  cases r1
  have last : ∀ b ∈ [s1.heap.objs.size], FpOk X pins H1 b := fun b hb => by
    rw [List.mem_singleton] at hb
    rw [hb]
    exact I1.fpOk (Nat.le_refl _) I1.fresh
  rcases q1 with ⟨xs, hq, q⟩ | ⟨xs, hq, q⟩
  · obtain ⟨its, rv, p, hz⟩ := I1.list hq
    exact wpAny_pyIter_list p.isList ⟨_, [s1.heap.objs.size], _, _, H1, rfl, I1.kept (t' := s1.toks) fun b o e => Heap.get?_push_of_some _ e, turn_list a s1.heap.objs.size, ⟨_, Heap.get?_push_size _ rfl, rfl, rfl⟩, last, q⟩
  · obtain ⟨its, rv, p, hz⟩ := I1.tuple hq
    exact wpAny_pyIter_tuple (show s1.heap.IsTuple a its.toArray from p) ⟨_, [s1.heap.objs.size], _, _, H1, rfl, I1.kept (t' := s1.toks) fun b o e => Heap.get?_push_of_some _ e, turn_tuple a s1.heap.objs.size, ⟨_, Heap.get?_push_size _ rfl, rfl, rfl⟩, last, q⟩
theorem pdi_seq {e : Expr} {x : Ex} (h : PD X xr W e (evE cx x)) : PDi X xr W tg e (evI cx (.seq x)) := by
  obtain ⟨t, p, k⟩ := h.frz.run
  refine ⟨_, pi_both p, fun F H O σ ρ R S w => ?_⟩
  simp only [evI] at w
  refine k F H O σ ρ _ S (WantG.seq .refl (.refl _) w fun d ρ1 F1 H1 O1 v S1 _ t1 p1 r1 w => ?_)
  obtain ⟨ds, he, w⟩ := w.lift
  cases seq_at r1 he with
  | l f h d => exact ⟨_, rfl, .inl ⟨_, SqL.of h, w F1 H1 O1 _ S1 t1 p1 (walkd_list f h d)⟩⟩
  | t h d => exact ⟨_, rfl, .inr ⟨_, sqT_ext (fun a f => ⟨f, rfl⟩) h, w F1 H1 O1 _ S1 t1 p1 (walkd_tup h d)⟩⟩
theorem small62_iff {i : Int} (h : small62 i = true) : -(2 ^ 62) ≤ i ∧ i < 2 ^ 62 := by
  have : i.natAbs < 2 ^ 62 := by simpa only [small62, decide_eq_true_eq] using h
  omega
theorem star_list {e : Expr} (h : noStar e = true) (env : PySem.Env) : starEach [e] env = [(false, eval e env)] := star_one h _ _
theorem pdi_rng1 {a : Expr} {x : Ex} {p pos : Pos} (hg : Gl X "range") (hm : X.mg "range" = none) (hs : noStar a = true) (ha : PD X xr W a (evE cx x)) : PDi X xr W tg (.Call (.Name "range" p) [a] [] pos) (evI cx (.rng [x])) := by
  obtain ⟨ta, pa, ka⟩ := ha.frz.run
  refine ⟨_, pi_range1 hg hm (pa_cons pa pa_nil (star_one hs _ _)) (star_list hs _), fun F H O σ ρ R S w => ?_⟩
  simp only [evI, evDs] at w
  rw [bindA] at w
  refine ka F H O σ ρ _ S (WantG.seq .refl (.refl _) w fun d1 ρ1 F1 H1 O1 v1 S1 _ t1 p1 h1 w => ?_)
  obtain ⟨is, he, w⟩ := WantG.lift (show WantG _ _ _ _ _ _ _ _ _ (Out.lift (rngOf [d1]) ρ1) _ from w)
  cases d1 <;> try (cases he; done)
  cases h1
  obtain ⟨g, rfl⟩ := gd_some he
  obtain ⟨g1, g2⟩ := small62_iff g
  exact ⟨_, rfl, g1, g2, w F1 H1 O1 _ S1 t1 p1 walkd_rng⟩
theorem pdi_rng2 {a b : Expr} {x y : Ex} {p pos : Pos} (hg : Gl X "range") (hm : X.mg "range" = none) (hs : noStar a = true) (hs2 : noStar b = true) (ha : PD X xr W a (evE cx x)) (hb : PD X xr W b (evE cx y)) : PDi X xr W tg (.Call (.Name "range" p) [a, b] [] pos) (evI cx (.rng [x, y])) := by
  obtain ⟨ta, pa, ka⟩ := ha.frz.run
  obtain ⟨tb, pb, kb⟩ := hb.frz.run
  refine ⟨_, pi_range2 hg hm (pa_cons pa (pa_cons pb pa_nil (star_one hs2 _ _)) (star_one hs _ _)) (by rw [star_one hs, star_list hs2]) (star_list hs2 _), fun F H O σ ρ R S w => ?_⟩
  simp only [evI, evDs] at w
  rw [bindA] at w
  refine ka F H O σ ρ _ S (WantG.seq .refl (.refl _) w fun d1 ρ1 F1 H1 O1 v1 S1 _ t1 p1 h1 w => ?_)
  rw [bindA, bindA] at w
  refine kb F1 H1 O1 σ ρ1 _ S1 (WantG.seq t1 p1 w fun d2 ρ2 F2 H2 O2 v2 S2 t12 t2 p2 h2 w => ?_)
  obtain ⟨is, he, w⟩ := WantG.lift (show WantG _ _ _ _ _ _ _ _ _ (Out.lift (rngOf [d1, d2]) ρ2) _ from w)
  cases d1 <;> try (cases he; done)
  cases d2 <;> try (cases he; done)
  cases h1
  cases h2
  obtain ⟨g, rfl⟩ := gd_some he
  rw [Bool.and_eq_true] at g
  exact ⟨_, _, rfl, ⟨(small62_iff g.1).1, (small62_iff g.1).2, (small62_iff g.2).1, (small62_iff g.2).2⟩, w F2 H2 O2 _ S2 t2 p2 walkd_rng⟩
theorem rng_size {i j c : Int} (hc : c ≠ 0) : Builtin.Range.rangeSize i j c = rngN i j c := by
  unfold Builtin.Range.rangeSize rngN
  rcases Int.lt_or_gt_of_ne hc with h | h
  · have h1 : ¬ 0 < c := by omega
    rw [if_neg h1, if_neg h1]
    split
    · have q : 0 ≤ (i - j - 1) / (-c) := Int.ediv_nonneg (by omega) (by omega)
      omega
    · rfl
  · rw [if_pos h, if_pos h]
    split
    · have q : 0 ≤ (j - i - 1) / c := Int.ediv_nonneg (by omega) (by omega)
      omega
    · rfl
theorem rng_small {i j c : Int} (hi : small62 i = true) (hj : small62 j = true) (hc : c ≠ 0) (hn : c.natAbs < 1073741824) : Builtin.Range.small i j c = true := by
  obtain ⟨i1, i2⟩ := small62_iff hi
  obtain ⟨j1, j2⟩ := small62_iff hj
  have hs : 0 ≤ Builtin.Range.rangeSize i j c ∧ Builtin.Range.rangeSize i j c < 2 ^ 63 := by
    have e := rng_size (i := i) (j := j) hc
    refine ⟨by omega, ?_⟩
    unfold Builtin.Range.rangeSize
    have key : ∀ x y : Int, 0 ≤ x → x < 2 ^ 63 - 1 → 0 < y → x / y + 1 < 2 ^ 63 := fun x y h1 h2 h3 => by
      have := Int.ediv_le_self y h1
      omega
    split
    · split
      · exact key _ _ (by omega) (by omega) (by omega)
      · omega
    · split
      · exact key _ _ (by omega) (by omega) (by omega)
      · omega
  have fit : ∀ x : Int, -(2 ^ 63) ≤ x → x < 2 ^ 63 → Builtin.Range.rangeFitsLong x = true := fun x h1 h2 => by
    unfold Builtin.Range.rangeFitsLong
    rw [Bool.and_eq_true, decide_eq_true_eq, decide_eq_true_eq]
    exact ⟨h1, h2⟩
  unfold Builtin.Range.small
  rw [fit i (by omega) (by omega), fit j (by omega) (by omega), fit c (by omega) (by omega), fit _ (by omega) hs.2]
  split
  · rw [fit _ (by omega) (by omega)]; simp
  · rw [fit _ (by omega) (by omega)]; simp
theorem pdi_rng3 {a b c : Expr} {x y z : Ex} {p pos : Pos} (hg : Gl X "range") (hm : X.mg "range" = none) (hs : noStar a = true) (hs2 : noStar b = true) (hs3 : noStar c = true) (ha : PD X xr W a (evE cx x)) (hb : PD X xr W b (evE cx y)) (hc : PD X xr W c (evE cx z)) :
    PDi X xr W tg (.Call (.Name "range" p) [a, b, c] [] pos) (evI cx (.rng [x, y, z])) := by
  obtain ⟨ta, pa, ka⟩ := ha.frz.run
  obtain ⟨tb, pb, kb⟩ := hb.frz.run
  obtain ⟨tc, pc, kc⟩ := hc.frz.run
  refine ⟨_, pi_range3 hg hm (pa_cons pa (pa_cons pb (pa_cons pc pa_nil (star_one hs3 _ _)) (star_one hs2 _ _)) (star_one hs _ _)) (star_one hs _ _) (star_no (by simp [hs2, hs3]) _ _), fun F H O σ ρ R S w => ?_⟩
  simp only [evI, evDs] at w
  rw [bindA] at w
  refine ka F H O σ ρ _ S (WantG.seq .refl (.refl _) w fun d1 ρ1 F1 H1 O1 v1 S1 _ t1 p1 h1 w => ?_)
  rw [bindA, bindA] at w
  refine kb F1 H1 O1 σ ρ1 _ S1 (WantG.seq t1 p1 w fun d2 ρ2 F2 H2 O2 v2 S2 t12 t2 p2 h2 w => ?_)
  rw [bindA, bindA] at w
  refine kc F2 H2 O2 σ ρ2 _ S2 (WantG.seq t2 p2 w fun d3 ρ3 F3 H3 O3 v3 S3 t23 t3 p3 h3 w => ?_)
  obtain ⟨is, he, w⟩ := WantG.lift (show WantG _ _ _ _ _ _ _ _ _ (Out.lift (rngOf [d1, d2, d3]) ρ3) _ from w)
  cases d1 <;> try (cases he; done)
  cases d2 <;> try (cases he; done)
  cases d3 <;> try (cases he; done)
  cases h1
  cases h2
  cases h3
  obtain ⟨g, rfl⟩ := gd_some he
  simp only [Bool.and_eq_true, decide_eq_true_eq] at g
  obtain ⟨⟨⟨g1, g2⟩, g3⟩, g4⟩ := g
  exact ⟨_, _, _, _, rfl, ⟨g3, g4, rng_small g1 g2 g3 g4, rng_size g3⟩, w F3 H3 O3 _ S3 t3 p3 walkd_rngC⟩
theorem pdi_zip {a b : Expr} {x y : Ex} {elts : List Expr} {kk : Nat} {tpos p pos : Pos} (hg : Gl X "zip") (hm : X.mg "zip" = none) (hs : noStar a = true) (hs2 : noStar b = true) (ha : PD X xr W a (evE cx x)) (hb : PD X xr W b (evE cx y)) :
    PDi X xr W (.Tuple elts kk tpos) (.Call (.Name "zip" p) [a, b] [] pos) (evI cx (.zip x y)) := by
  obtain ⟨ta, pa, ka⟩ := ha.frz.run
  obtain ⟨tb, pb, kb⟩ := hb.frz.run
  refine ⟨_, RZ.pi_zipA hg hm (pa_cons pa (pa_cons pb pa_nil (star_one hs2 _ _)) (star_one hs _ _)) (star_one hs _ _) (star_no (by simp [hs2]) _ _), fun F H O σ ρ R S w => ?_⟩
  simp only [evI] at w
  refine ka F H O σ ρ _ S (WantG.seq .refl (.refl _) w fun d1 ρ1 F1 H1 O1 v1 S1 _ t1 p1 h1 w => ?_)
  refine kb F1 H1 O1 σ ρ1 _ S1 (WantG.seq t1 p1 w fun d2 ρ2 F2 H2 O2 v2 S2 t12 t2 p2 h2 w => ?_)
  obtain ⟨is, he, w⟩ := w.lift
  have h1' := Dat.ext (S1.ext t12) h1
  have sq : ∀ {v : V} {ds : List D}, Dat X.K F2 H2 v (.tuple ds) → ∃ a vs, v = .ref a ∧ (F2 a ∧ H2 a = some (.tup vs) ∨ KTup X.K a vs) ∧ Dats X.K F2 H2 vs ds := fun {v ds} h => by
    cases h with
    | tup f h d => exact ⟨_, _, rfl, .inl ⟨f, h⟩, d⟩
    | ktup h d => exact ⟨_, _, rfl, .inr h, d⟩
  cases d1 <;> try (cases he; done)
  · cases d2 <;> try (cases he; done)
    cases he
    cases h1' with
    | lst f h d => cases h2 with
      | lst f2 h2 d2 => exact ⟨_, _, _, _, rfl, .inl ⟨SqL.of h, SqL.of h2, w F2 H2 O2 _ S2 t2 p2 (walkd_zip f h d f2 h2 d2)⟩⟩
  · cases d2 <;> try (cases he; done)
    cases he
    obtain ⟨a1, vs, rfl, h, d⟩ := sq h1'
    obtain ⟨a2, ws, rfl, h2', d2⟩ := sq h2
    exact ⟨_, _, _, _, rfl, .inr ⟨sqT_ext (fun a f => ⟨f, rfl⟩) h, sqT_ext (fun a f => ⟨f, rfl⟩) h2', w F2 H2 O2 _ S2 t2 p2 (walkd_zipT h d h2' d2)⟩⟩
end
end MI
namespace MI
open PySem PySem.Spec PyProof.Rows L2
open AutoSeq1 (wpAny_loadPart')
/-! ### enumerate of a tuple -/
theorem draws_tup {prog : Program} {w : World} {A : Around} (hh : A.handled = none) (it l : Addr) (hne : l ≠ it) (items : Array Value) :
    Draws prog w A it [it, l] items.size (fun i v => items[i]? = some v) (fun i h => h.IsTupleIter it l i ∧ h.IsTuple l items) where
  live := fun i h st => by
    obtain ⟨⟨o, ho, r⟩, q⟩ := st
    exact ⟨o, ho⟩
  frame := fun i h h' st hk => ⟨st.1.at (hk it (by simp)), st.2.at (hk l (by simp))⟩
  item := fun i s Q E hi st hQ => RZ.nextOf_tuple_item st.1 st.2 (x := items[i]) (by simp [hi]) fun h' a b => hQ _ h' s.toks (by simp [hi]) ⟨a, st.2.extBut b.extBut hne⟩ b
  done := fun s Q E st hE => RZ.nextOf_tuple_end hh st.1 st.2 (by simp) hE
theorem meets_enum_tup (l : Addr) (items : Array Value) (n : Nat) (dct : Option Addr) (sl : Array (Option Value)) :
    Meets (Builtin.«enumerate.__new__» ⟨[.type "enumerate", .ref l], []⟩) (fun _ R s => s.heap.get? l = some { cls := .type "tuple", dict := dct, data := .seq items n, slots := sl } ∧
      R (.ok (.ret (.ref (s.heap.push { cls := .type "tuple_iterator", data := .fields #[.ref l, .int 0 0] }).objs.size)))
        { s with heap := (s.heap.push { cls := .type "tuple_iterator", data := .fields #[.ref l, .int 0 0] }).push { cls := .type "enumerate", data := .fields #[.none, .bool false, .ref s.heap.objs.size, rawInt 0, .none, .none] } }) :=
  .of_wp fun prog w A R s h => by
    obtain ⟨hp, g, d, tk, os⟩ := s; obtain ⟨hl, h⟩ := h
    have hsub := sub_enumerate
    have hT : Heap.IsTuple (Shared.heap ⟨hp, g, d, tk, os⟩) l items := ⟨_, hl, rfl, n, rfl⟩
    wp_walk using wpAny_loadPart' hl
    refine wpAny_stack_any fun st => wpAny_pure ?_
    split
    · rename_i c _ _ _ _ _
      cases (c == Value.type "enumerate")
      · wp_walk using wpAny_loadPart' hl, wpAny_pyIter_tuple hT
        exact ⟨_, rfl, h⟩
      · wp_walk using wpAny_loadPart' hl, wpAny_pyIter_tuple hT
        exact ⟨_, rfl, h⟩
    · wp_walk using wpAny_loadPart' hl, wpAny_pyIter_tuple hT
      exact ⟨_, rfl, h⟩
theorem call_enum_tup {prog : Program} {w : World} {A : Around} {E : Value → Shared → Prop} {s : Shared} {l : Addr} {items : Array Value} {Q : Value → Shared → Prop} (hT : s.heap.IsTuple l items)
    (h : ∀ h', IsEnum h' (s.heap.objs.size + 1) s.heap.objs.size 0 .none → h'.IsTupleIter s.heap.objs.size l 0 → h'.objs.size = s.heap.objs.size + 2 →
      (∀ b o, s.heap.get? b = some o → h'.get? b = some o) → Q (.ref (s.heap.objs.size + 1)) { s with heap := h' }) :
    wpAny (model prog w) A (call (.type "enumerate") [.ref l]) Q E s := by
  obtain ⟨⟨c, dct, dt, sl⟩, hl, hc, n, hd⟩ := hT
  have hc : c = .type "tuple" := hc
  have hd : dt = .seq items n := hd
  subst hc hd
  refine callType_new F.called_enumerate (by decide) (F.typeCall_enumerate_1 _) (F.newCall_enumerate_1 _) (fun obj => F.args_object_init_2 obj _) F.entry_enumerate_new (meets_enum_tup l items n dct sl) ⟨hl, ?_⟩
  generalize hp1 : s.heap.push { cls := .type "tuple_iterator", data := .fields #[.ref l, .int 0 0] } = h1
  have hz : h1.objs.size = s.heap.objs.size + 1 := by rw [← hp1]; exact Heap.size_push ..
  have hi : h1.get? s.heap.objs.size = some { cls := .type "tuple_iterator", data := .fields #[.ref l, .int 0 0] } := by rw [← hp1]; exact Heap.get?_push_size _ rfl
  have hk : ∀ b o, s.heap.get? b = some o → h1.get? b = some o := fun b o x => by rw [← hp1]; exact Heap.get?_push_of_some _ x
  show _ ∧ _
  rw [hz]
  have he : IsEnum (h1.push { cls := .type "enumerate", data := .fields #[.none, .bool false, .ref s.heap.objs.size, rawInt 0, .none, .none] }) (s.heap.objs.size + 1) s.heap.objs.size 0 .none := by
    have q := Heap.get?_push_size h1 (o := { cls := .type "enumerate", data := .fields #[.none, .bool false, .ref s.heap.objs.size, rawInt 0, .none, .none] }) rfl
    rw [hz] at q
    exact q
  refine ⟨⟨_, he, rfl⟩, h _ he ⟨_, Heap.get?_push_of_some _ hi, rfl, rfl⟩ (by rw [Heap.size_push, hz]) fun b o x => Heap.get?_push_of_some _ (hk b o x)⟩
/-- the tuple at a, each item in a new pair -/
def IteT (K : PySem.W.Frag) (a : Addr) : L2.It :=
  ⟨fun i H => ∃ (xs : List V) (x : V), SqT K H a xs ∧ xs[i]? = some x, fun i H v H' => ∃ T x, v = .ref T ∧ H T = none ∧ H' = upd H T (.tup [.int (i : Nat), x]) ∧ ∀ xs, SqT K H a xs → xs[i]? = some x, fun i H => ∃ xs : List V, SqT K H a xs ∧ xs.length ≤ i⟩
theorem turn_enumT {P : Program} {w : World} {K : PySem.W.Frag} {elts : List Expr} {kk : Nat} {tpos : Pos} (a e it : Addr) :
    Turn P w K (.Tuple elts kk tpos) (IteT K a) [e, it] e (fun i h => (∃ old, IsEnum h e it ((i : Nat) : Int) old) ∧ h.IsTupleIter it a i ∧ e ≠ it) where
  mem := by simp
  obj := fun i h st b hb => by
    obtain ⟨⟨old, he⟩, ⟨o, ho, hc, hd⟩, _⟩ := st
    rcases List.mem_cons.mp hb with rfl | hb
    · exact ⟨_, he, fun v q => nomatch q⟩
    · rw [List.mem_singleton.mp hb]
      exact ⟨o, ho, fun v q => by rw [hd] at q; cases q⟩
  keep := fun i h h' st k => by
    obtain ⟨⟨old, he⟩, hi, hne⟩ := st
    exact ⟨⟨old, k e (by simp) _ he⟩, hi.at (k it (by simp)), hne⟩
  item := by
    intro X hP hw hK hc i pins s σ H E I hf st hg
    subst hP hw hK
    obtain ⟨⟨old, he⟩, hit, hne⟩ := st
    obtain ⟨xs, x, hq, hx⟩ := hg
    obtain ⟨its, rv, p, hz⟩ := I.tuple hq
    have hT : s.heap.IsTuple a its.toArray := p
    obtain ⟨u, hu, ru⟩ := rv.get hx
    have hel : e < s.heap.objs.size := Heap.lt_size he
    have hil : it < s.heap.objs.size := by obtain ⟨_, q, _⟩ := hit; exact Heap.lt_size q
    have ai : a ≠ it := fun z => by
      obtain ⟨o1, h1, c1, _⟩ := id hit
      obtain ⟨o2, h2, c2, _⟩ := id hT
      rw [z, h1] at h2
      cases h2
      rw [c1] at c2
      injection c2 with c2
      exact absurd c2 (by decide)
    have ae : a ≠ e := fun z => by
      obtain ⟨o2, h2, c2, _⟩ := id hT
      rw [z, he] at h2
      cases h2
      injection c2 with c2
      exact absurd c2 (by decide)
    have hlt : i < its.toArray.size := by
      rcases Nat.lt_or_ge i its.toArray.size with q | q
      · exact q
      · rw [List.getElem?_eq_none (by simpa using q)] at hu; cases hu
    refine wpAny_pyNext_enum_itemD (draws_tup (A := X.A.in1) (I.ok.hd hc) it a ai its.toArray) he ⟨hit, hT⟩ hlt hne (by simp [hne, Ne.symm ae]) fun y h' tk hy ho hst hN hsz hk => ?_
    have ey : y = u := by
      have : its.toArray[i]? = some u := by simpa using hu
      rw [this] at hy
      cases hy
      rfl
    subst ey
    refine ⟨_, rfl, wpAny_letOwnedTupleGo_enum (s := { s with heap := h', toks := tk + 1 }) ho fun h'' he' sb => ?_⟩
    have hN2 : h''.get? s.heap.objs.size = some { cls := .type "tuple", data := .seq #[.int i tk, y] } := (sb.2 _ (Nat.ne_of_gt hel)).trans hN
    have new : ObjOk X.prog X.w (upd H s.heap.objs.size (.tup [.int (i : Nat), x])) h'' s.heap.objs.size (.tup [.int (i : Nat), x]) :=
      ⟨by show 2 ≤ sizeLine; decide, [.int i tk, y], .cons ⟨_, rfl⟩ (.cons ru .nil), ⟨_, hN2, rfl, _, rfl⟩⟩
    have I1 : Inv X pins σ (upd H s.heap.objs.size (.tup [.int (i : Nat), x])) { s with heap := h'', toks := tk + 1 } :=
      I.turnedNew (ch := [e, it]) (fun b ob hb q => (sb.2 b (fun z => hb (by simp [z]))).trans (hk b ob (fun z => hb (by simp [z])) (fun z => hb (by simp [z])) q)) hf (Nat.le_refl _) new
    refine ⟨.ref s.heap.objs.size, _, I1, rfl, ⟨_, x, rfl, I.hok.fresh (Nat.le_refl _), rfl, fun ys hy2 => ?_⟩, ⟨⟨y, ?_⟩, hst.1.at fun o q => (sb.2 it (Ne.symm hne)).trans q, hne⟩, fun b hb => ?_⟩
    · rw [I.tuple_inj hy2 hq]; exact hx
    · have e1 : ((i + 1 : Nat) : Int) = (i : Int) + 1 := by omega
      rw [e1]; exact he'
    · have hb' : b < s.heap.objs.size := by
        rcases List.mem_cons.mp hb with z | z
        · rw [z]; exact hel
        · rw [List.mem_singleton.mp z]; exact hil
      rw [upd_ne (Nat.ne_of_lt hb')]
      exact (hf b hb).1
  done := by
    intro X hP hw hK hc i pins s σ H E I hf st hg
    subst hP hw hK
    obtain ⟨⟨old, he⟩, hit, hne⟩ := st
    obtain ⟨xs, hq, hx⟩ := hg
    obtain ⟨its, rv, p, hz⟩ := I.tuple hq
    have hT : s.heap.IsTuple a its.toArray := p
    obtain ⟨f0, f1, f2, f3, f4, f5⟩ := hf it (by simp)
    have hl := rv.length
    have D : Draws X.prog X.w X.A.in1 it [it, a] i (fun _ _ => True) (fun j h => j = i ∧ h.IsTupleIter it a i ∧ h.IsTuple a its.toArray) :=
      { live := fun j h st => by
          obtain ⟨_, ⟨o, ho, r⟩, q⟩ := st
          exact ⟨o, ho⟩
        frame := fun j h h' st hk => ⟨st.1, st.2.1.at (hk it (by simp)), st.2.2.at (hk a (by simp))⟩
        item := fun j s Q E hj st _ => absurd st.1 (Nat.ne_of_lt hj)
        done := fun s Q E st hE => RZ.nextOf_tuple_end (I.ok.hd hc) st.2.1 st.2.2 (by simp; omega) hE }
    exact wpAny_pyNext_enum_endD D he ⟨rfl, hit, hT⟩ fun h' eb => ⟨rfl, I.turned (t' := s.toks) (fun b o hb q => eb b o hb q) f0 f1 f3 f4 f5⟩
  self := fun A i s Q E st h => by
    obtain ⟨⟨_, he⟩, _⟩ := st
    exact wpAny_pyIter_enum he h
/-- of a list or a tuple -/
def iEnumA (K : PySem.W.Frag) (ta : TA) : TI := fun σ H R => ta σ H fun vs H1 => ∃ a, vs = [.ref a] ∧ ((∃ xs, SqL K H1 a xs ∧ R (Ite K a) H1) ∨ (∃ xs, SqT K H1 a xs ∧ R (IteT K a) H1))
theorem pi_enumA {X : Cx} {e : Expr} {ta : TA} {p pos tpos : Pos} {elts : List Expr} {kk : Nat} (hg : Gl X "enumerate") (hm : X.mg "enumerate" = none) (ha : PA X [e] ta) (hs : starEach [e] X.env = [(false, eval e X.env)]) :
    PI X (.Tuple elts kk tpos) (.Call (.Name "enumerate" p) [e] [] pos) (iEnumA X.K ta) := by
  refine ⟨fun pins s σ H R I h => ?_⟩
  refine Call_ (ld_blt I hg hm boot_enumerate (PyProof.Rows.callWith_type1 (thn (ha.run pos pins s σ H _ I h) fun us s1 ⟨vs, H1, I1, r1, q1⟩ => ?_) hs rfl))
  obtain ⟨a, ex, q1⟩ := q1
  subst ex
  have last : ∀ b ∈ [s1.heap.objs.size + 1, s1.heap.objs.size], FpOk X pins H1 b := fun b hb => by
    have hle : s1.heap.objs.size ≤ b := by
      rcases List.mem_cons.mp hb with z | z
      · omega
      · rw [List.mem_singleton.mp z]; exact Nat.le_refl _
    exact I1.fpOk hle (I1.hok.fresh hle)
  cases r1 with
  | cons r rr =>
    cases rr
    cases r
    rcases q1 with ⟨xs, hq, q⟩ | ⟨xs, hq, q⟩
    · obtain ⟨its, rv, p', hz⟩ := I1.list hq
      exact call_enumerate_list p'.isList fun h' he hit hsz hk => wpAny_pyIter_enum he ⟨s1.heap.objs.size + 1, [s1.heap.objs.size + 1, s1.heap.objs.size], _, _, H1, rfl, I1.kept (t' := s1.toks) hk, turn_enum a (s1.heap.objs.size + 1) s1.heap.objs.size, ⟨⟨.none, he⟩, hit, Nat.succ_ne_self _⟩, last, q⟩
    · obtain ⟨its, rv, p', hz⟩ := I1.tuple hq
      exact call_enum_tup (show s1.heap.IsTuple a its.toArray from p') fun h' he hit hsz hk => wpAny_pyIter_enum he ⟨s1.heap.objs.size + 1, [s1.heap.objs.size + 1, s1.heap.objs.size], _, _, H1, rfl, I1.kept (t' := s1.toks) hk, turn_enumT a (s1.heap.objs.size + 1) s1.heap.objs.size, ⟨⟨.none, he⟩, hit, Nat.succ_ne_self _⟩, last, q⟩
variable {K : PySem.W.Frag} {F : Fz} {H : Hp}
theorem walkd_enumT {a : Addr} {vs : List V} {ds : List D} (h : F a ∧ H a = some (.tup vs) ∨ KTup K a vs) (d : Dats K F H vs ds) : WalkD K F H (IteT K a) (enumD 0 ds) where
  go := fun i F1 H1 x hi => by
    have hi' : i < vs.length := by rw [d.length]; rw [enumD_len] at hi; exact hi
    exact ⟨vs, vs[i], sqT_ext x h, by simp [hi']⟩
  stop := fun F1 H1 x => ⟨vs, sqT_ext x h, by rw [d.length, enumD_len]; exact Nat.le_refl _⟩
  yld := fun i e F1 H1 y H2 x he hy => by
    obtain ⟨e1, h1, rfl⟩ := enumD_get he
    obtain ⟨T, z, rfl, hT, rfl, hz⟩ := hy
    obtain ⟨w, hw, dw⟩ := d.get h1
    have := (hz vs (sqT_ext x h)).symm.trans hw
    cases this
    exact .tup hT (.cons (by simpa using Dat.int _) (.one (Dat.ext x dw)))
section
variable {X : Cx} {xr : XRep} {W : WX} {cx : Cxt}
theorem pdi_enum {e : Expr} {x : Ex} {elts : List Expr} {kk : Nat} {tpos p pos : Pos} (hg : Gl X "enumerate") (hm : X.mg "enumerate" = none) (hs : noStar e = true) (ha : PD X xr W e (evE cx x)) : PDi X xr W (.Tuple elts kk tpos) (.Call (.Name "enumerate" p) [e] [] pos) (evI cx (.enum x)) := by
  obtain ⟨ta, pa, ka⟩ := ha.frz.run
  refine ⟨_, pi_enumA hg hm (pa_cons pa pa_nil (star_one hs _ _)) (star_list hs _), fun F H O σ ρ R S w => ?_⟩
  simp only [evI] at w
  refine ka F H O σ ρ _ S (WantG.seq .refl (.refl _) w fun d1 ρ1 F1 H1 O1 v1 S1 _ t1 p1 h1 w => ?_)
  obtain ⟨is, he, w⟩ := w.lift
  cases d1 <;> try (cases he; done)
  · cases he
    cases h1 with
    | lst f h d => exact ⟨_, rfl, .inl ⟨_, SqL.of h, w F1 H1 O1 _ S1 t1 p1 (walkd_enum f h d)⟩⟩
  · cases he
    cases h1 with
    | tup f h d => exact ⟨_, rfl, .inr ⟨_, sqT_ext (fun a f => ⟨f, rfl⟩) (.inl ⟨f, h⟩), w F1 H1 O1 _ S1 t1 p1 (walkd_enumT (.inl ⟨f, h⟩) d)⟩⟩
    | ktup h d => exact ⟨_, rfl, .inr ⟨_, sqT_ext (F := F1) (fun a f => ⟨f, rfl⟩) (.inr h), w F1 H1 O1 _ S1 t1 p1 (walkd_enumT (.inr h) d)⟩⟩
end
end MI
namespace MI
open PySem PySem.Spec PyProof.Rows L2
/-! ### list(zip(a, b)), a and b tuples: the pairs that were given out stay -/
section
variable {prog : Program} {w : World} {A : Around} {E : Value → Shared → Prop} {s : Shared}
theorem zipT_held {z TI TO T i1 i2 l1 l2 : Addr} {f : Bool} {oT : Obj} {k1 k2 : Nat} {xs ys : Array Value} {x y : Value} {Q : Value → Shared → Prop} (D : ZipApart z TI TO i1 i2 l1 l2)
    (hz : IsZipHeld s.heap z TI TO T f) (hT : s.heap.get? T = some oT) (hTI : IsPair s.heap TI (.ref i1) (.ref i2))
    (h1 : s.heap.IsTupleIter i1 l1 k1) (h2 : s.heap.IsTupleIter i2 l2 k2) (hl1 : s.heap.IsTuple l1 xs) (hl2 : s.heap.IsTuple l2 ys) (hx : xs[k1]? = some x) (hy : ys[k2]? = some y)
    (hQ : ∀ h', IsZipHeld h' z TI TO T true → h'.IsTupleIter i1 l1 (k1 + 1) → h'.IsTupleIter i2 l2 (k2 + 1) → IsPair h' s.heap.objs.size x y → h'.objs.size = s.heap.objs.size + 1 →
      (∀ c o, c ≠ z → c ≠ i1 → c ≠ i2 → s.heap.get? c = some o → h'.get? c = some o) → Q (.ref s.heap.objs.size) { s with heap := h' }) :
    wpAny (model prog w) A (Builtin.«zip.__next__» ⟨[.ref z], []⟩) (fun fin s' => ∃ v, fin = .done (.ret v) ∧ Q v s') E s := by
  show wpAny _ _ (field (.ref z) 2 >>= _) _ _ _
  refine wpAny_bind (wpAny_field hz rfl (x := .bool false) rfl ?_)
  show wpAny _ _ (field (.ref z) 3 >>= _) _ _ _
  refine wpAny_bind (wpAny_field hz rfl (x := .ref TI) rfl ?_)
  refine wpAny_bind (wpAny_seqItems hTI rfl ?_)
  show wpAny _ _ (Builtin.SmallTypes.ownedTupleIsFree (.ref z) >>= _) _ _ _
  refine wpAny_bind (wpAny_tupleHeld_zip hz hT fun h₁ hz₁ hs₁ => ?_)
  simp only [Bool.false_eq_true, if_false]
  refine wpAny_bind ?_
  rw [← Array.forIn_toList]
  simp only [List.forIn_cons, List.forIn_nil]
  refine wpAny_bind (wpAny_bind (wpAny_holding ?_))
  show wpAny _ _ (Builtin.SmallTypes.nextOf (.ref i1) >>= _) _ _ _
  refine wpAny_bind (RZ.nextOf_tuple_item (s := { s with heap := h₁ }) (h1.extBut hs₁.extBut D.i1z) (hl1.extBut hs₁.extBut D.l1z) hx fun h₂ h1₂ hs₂ => wpAny_pure ?_)
  refine wpAny_pure ?_
  refine wpAny_bind (wpAny_bind (wpAny_holding ?_))
  show wpAny _ _ (Builtin.SmallTypes.nextOf (.ref i2) >>= _) _ _ _
  refine wpAny_bind (RZ.nextOf_tuple_item (s := { s with heap := h₂ }) ((h2.extBut hs₁.extBut D.i2z).extBut hs₂.extBut D.i12.symm) ((hl2.extBut hs₁.extBut D.l2z).extBut hs₂.extBut D.l2i1) hy fun h₃ h2₃ hs₃ => wpAny_pure ?_)
  refine wpAny_pure (wpAny_pure ?_)
  show wpAny _ _ (newTuple [x, y] >>= _) _ _ _
  refine wpAny_bind (wpAny_newTuple (wpAny_pure ⟨_, rfl, ?_⟩))
  have sz : h₃.objs.size = s.heap.objs.size := by rw [hs₃.1, hs₂.1, hs₁.1]
  have z3 : IsZipHeld h₃ z TI TO T true := hs₃.extBut _ _ D.i2z.symm (hs₂.extBut _ _ D.i1z.symm hz₁)
  have kp : ∀ c o, c ≠ z → c ≠ i1 → c ≠ i2 → s.heap.get? c = some o → h₃.get? c = some o := fun c o c1 c2 c3 e => hs₃.extBut _ _ c3 (hs₂.extBut _ _ c2 (hs₁.extBut _ _ c1 e))
  have i1' : h₃.IsTupleIter i1 l1 (k1 + 1) := h1₂.extBut hs₃.extBut D.i12
  have pr : IsPair (h₃.push { cls := .type "tuple", data := .seq #[x, y] }) h₃.objs.size x y := Heap.get?_push_size _ rfl
  have ps : (h₃.push { cls := .type "tuple", data := .seq #[x, y] }).objs.size = h₃.objs.size + 1 := Heap.size_push ..
  show Q (.ref h₃.objs.size) _
  rw [sz] at pr ps ⊢
  exact hQ _ (Heap.get?_push_of_some _ z3) (i1'.at fun o e => Heap.get?_push_of_some _ e) (h2₃.at fun o e => Heap.get?_push_of_some _ e) pr ps fun c o c1 c2 c3 e => Heap.get?_push_of_some _ (kp c o c1 c2 c3 e)
theorem zipT_held_end {z TI TO T i1 i2 l1 l2 : Addr} {f : Bool} {oT : Obj} {k1 k2 : Nat} {xs ys : Array Value} {Q : Fin → Shared → Prop} (hh : A.handled = none) (D : ZipApart z TI TO i1 i2 l1 l2)
    (hz : IsZipHeld s.heap z TI TO T f) (hT : s.heap.get? T = some oT) (hTI : IsPair s.heap TI (.ref i1) (.ref i2))
    (h1 : s.heap.IsTupleIter i1 l1 k1) (h2 : s.heap.IsTupleIter i2 l2 k2) (hl1 : s.heap.IsTuple l1 xs) (hl2 : s.heap.IsTuple l2 ys) (hend : xs[k1]? = none ∨ ys[k2]? = none)
    (hE : ∀ h' e, (∀ c o, c ≠ z → c ≠ i1 → c ≠ i2 → s.heap.get? c = some o → h'.get? c = some o) → (∃ o, h'.get? e = some o ∧ o.cls = .type "StopIteration") → E (.ref e) { s with heap := h' }) :
    wpAny (model prog w) A (Builtin.«zip.__next__» ⟨[.ref z], []⟩) Q E s := by
  show wpAny _ _ (field (.ref z) 2 >>= _) _ _ _
  refine wpAny_bind (wpAny_field hz rfl (x := .bool false) rfl ?_)
  show wpAny _ _ (field (.ref z) 3 >>= _) _ _ _
  refine wpAny_bind (wpAny_field hz rfl (x := .ref TI) rfl ?_)
  refine wpAny_bind (wpAny_seqItems hTI rfl ?_)
  show wpAny _ _ (Builtin.SmallTypes.ownedTupleIsFree (.ref z) >>= _) _ _ _
  refine wpAny_bind (wpAny_tupleHeld_zip hz hT fun h₁ hz₁ hs₁ => ?_)
  simp only [Bool.false_eq_true, if_false]
  refine wpAny_bind ?_
  rw [← Array.forIn_toList]
  simp only [List.forIn_cons, List.forIn_nil]
  refine wpAny_bind (wpAny_bind (wpAny_holding ?_))
  show wpAny _ _ (Builtin.SmallTypes.nextOf (.ref i1) >>= _) _ _ _
  cases hx : xs[k1]? with
  | none =>
    refine wpAny_bind (RZ.nextOf_tuple_end (s := { s with heap := h₁ }) hh (h1.extBut hs₁.extBut D.i1z) (hl1.extBut hs₁.extBut D.l1z) hx fun h₂ e hs₂ he => ?_)
    exact hE h₂ e (fun c o c1 c2 _ x => hs₂ _ _ c2 (hs₁.extBut _ _ c1 x)) he
  | some x =>
    have hy : ys[k2]? = none := by
      rcases hend with h | h
      · rw [hx] at h; cases h
      · exact h
    refine wpAny_bind (RZ.nextOf_tuple_item (s := { s with heap := h₁ }) (h1.extBut hs₁.extBut D.i1z) (hl1.extBut hs₁.extBut D.l1z) hx fun h₂ h1₂ hs₂ => wpAny_pure ?_)
    refine wpAny_pure ?_
    refine wpAny_bind (wpAny_bind (wpAny_holding ?_))
    show wpAny _ _ (Builtin.SmallTypes.nextOf (.ref i2) >>= _) _ _ _
    refine wpAny_bind (RZ.nextOf_tuple_end (s := { s with heap := h₂ }) hh ((h2.extBut hs₁.extBut D.i2z).extBut hs₂.extBut D.i12.symm) ((hl2.extBut hs₁.extBut D.l2z).extBut hs₂.extBut D.l2i1) hy fun h₃ e hs₃ he => ?_)
    exact hE h₃ e (fun c o c1 c2 c3 x => hs₃ _ _ c3 (hs₂.extBut _ _ c2 (hs₁.extBut _ _ c1 x))) he
theorem next_zipT_held {z TI TO T i1 i2 l1 l2 : Addr} {f : Bool} {oT : Obj} {k1 k2 : Nat} {xs ys : Array Value} {x y : Value} {Q : Option Value → Shared → Prop} (D : ZipApart z TI TO i1 i2 l1 l2)
    (hz : IsZipHeld s.heap z TI TO T f) (hT : s.heap.get? T = some oT) (hTI : IsPair s.heap TI (.ref i1) (.ref i2))
    (h1 : s.heap.IsTupleIter i1 l1 k1) (h2 : s.heap.IsTupleIter i2 l2 k2) (hl1 : s.heap.IsTuple l1 xs) (hl2 : s.heap.IsTuple l2 ys) (hx : xs[k1]? = some x) (hy : ys[k2]? = some y)
    (hQ : ∀ h', IsZipHeld h' z TI TO T true → h'.IsTupleIter i1 l1 (k1 + 1) → h'.IsTupleIter i2 l2 (k2 + 1) → IsPair h' s.heap.objs.size x y → h'.objs.size = s.heap.objs.size + 1 →
      (∀ c o, c ≠ z → c ≠ i1 → c ≠ i2 → s.heap.get? c = some o → h'.get? c = some o) → Q (some (.ref s.heap.objs.size)) { s with heap := h' }) :
    wpAny (model prog w) A (pyNext (.ref z)) Q E s := by
  have ty : s.TypeIs (.ref z) "zip" := ⟨_, hz, rfl⟩
  unfold pyNext
  exact wpAny_bind (wpAny_attempt (wpAny_callSpecial?_slot (name := Str.ofString "__next__") ty F.slot_zip_next
    (wpAny_call_entry F.slot_zip_next ty F.entry_zip_next (zipT_held D hz hT hTI h1 h2 hl1 hl2 hx hy fun h' a1 a3 a4 a5 a6 a7 => wpAny_pure (hQ h' a1 a3 a4 a5 a6 a7)) (F.args_zip_next_1 _))))
theorem end_zipT_held {z TI TO T i1 i2 l1 l2 : Addr} {f : Bool} {oT : Obj} {k1 k2 : Nat} {xs ys : Array Value} {Q : Option Value → Shared → Prop} (hh : A.handled = none) (D : ZipApart z TI TO i1 i2 l1 l2)
    (hz : IsZipHeld s.heap z TI TO T f) (hT : s.heap.get? T = some oT) (hTI : IsPair s.heap TI (.ref i1) (.ref i2))
    (h1 : s.heap.IsTupleIter i1 l1 k1) (h2 : s.heap.IsTupleIter i2 l2 k2) (hl1 : s.heap.IsTuple l1 xs) (hl2 : s.heap.IsTuple l2 ys) (hend : xs[k1]? = none ∨ ys[k2]? = none)
    (hQ : ∀ h', (∀ c o, c ≠ z → c ≠ i1 → c ≠ i2 → s.heap.get? c = some o → h'.get? c = some o) → Q none { s with heap := h' }) : wpAny (model prog w) A (pyNext (.ref z)) Q E s := by
  have ty : s.TypeIs (.ref z) "zip" := ⟨_, hz, rfl⟩
  unfold pyNext
  refine wpAny_bind (wpAny_attempt (wpAny_callSpecial?_slot (name := Str.ofString "__next__") ty F.slot_zip_next
    (wpAny_call_entry F.slot_zip_next ty F.entry_zip_next (zipT_held_end hh D hz hT hTI h1 h2 hl1 hl2 hend fun h' e hk he => ?_) (F.args_zip_next_1 _))))
  obtain ⟨o, ho, hc⟩ := he
  refine wpAny_bind (wpAny_isInstance (T := "StopIteration") (b := true) ⟨o, ho, hc⟩ isSubtype_stop ?_)
  exact wpAny_pure (hQ _ hk)
end
/-- a zip of two tuples, i pairs given out; S: the list that is being filled -/
structure ZSt (z TI TO i1 i2 l1 l2 S : Addr) (xs ys : Array Value) (i : Nat) (h : Heap) : Prop where
  pTI : IsPair h TI (.ref i1) (.ref i2)
  t1 : h.IsTupleIter i1 l1 i
  t2 : h.IsTupleIter i2 l2 i
  a1 : h.IsTuple l1 xs
  a2 : h.IsTuple l2 ys
  st : (IsZip h z TI TO .none ∧ ∃ a b, IsPair h TO a b) ∨ ∃ T f oT, IsZipHeld h z TI TO T f ∧ h.get? T = some oT ∧ T ≠ z ∧ T ≠ i1 ∧ T ≠ i2 ∧ T ≠ S
theorem ZSt.keep {z TI TO i1 i2 l1 l2 S : Addr} {xs ys : Array Value} {i : Nat} {h h' : Heap} (x : ZSt z TI TO i1 i2 l1 l2 S xs ys i h) (hk : ∀ b o, b ≠ S → h.get? b = some o → h'.get? b = some o) (nz : z ≠ S) (nTI : TI ≠ S) (nTO : TO ≠ S) (n1 : i1 ≠ S) (n2 : i2 ≠ S) (m1 : l1 ≠ S) (m2 : l2 ≠ S) : ZSt z TI TO i1 i2 l1 l2 S xs ys i h' := by
  refine ⟨hk _ _ nTI x.pTI, x.t1.at fun o e => hk _ o n1 e, x.t2.at fun o e => hk _ o n2 e, x.a1.at fun o e => hk _ o m1 e, x.a2.at fun o e => hk _ o m2 e, ?_⟩
  rcases x.st with ⟨hz, a, b, hTO⟩ | ⟨T, f, oT, hz, hT, r1, r2, r3, r4⟩
  · exact .inl ⟨hk _ _ nz hz, a, b, hk _ _ nTO hTO⟩
  · exact .inr ⟨T, f, oT, hk _ _ nz hz, hk _ _ r4 hT, r1, r2, r3, r4⟩
section
variable {prog : Program} {w : World} {A : Around} {E : Value → Shared → Prop} {s : Shared}
theorem zst_item {z TI TO i1 i2 l1 l2 S : Addr} {xs ys : Array Value} {i : Nat} {x y : Value} {Q : Option Value → Shared → Prop} (D : ZipApart z TI TO i1 i2 l1 l2) (st : ZSt z TI TO i1 i2 l1 l2 S xs ys i s.heap) (hS : S < s.heap.objs.size) (ex : xs[i]? = some x) (ey : ys[i]? = some y)
    (hQ : ∀ h', ZSt z TI TO i1 i2 l1 l2 S xs ys (i + 1) h' → IsPair h' s.heap.objs.size x y → (∀ c o, c ≠ z → c ≠ TO → c ≠ i1 → c ≠ i2 → s.heap.get? c = some o → h'.get? c = some o) → Q (some (.ref s.heap.objs.size)) { s with heap := h' }) :
    wpAny (model prog w) A (pyNext (.ref z)) Q E s := by
  have lt : ∀ {c o}, s.heap.get? c = some o → s.heap.objs.size ≠ c := fun e => Nat.ne_of_gt (Heap.lt_size e)
  have n1 : s.heap.objs.size ≠ i1 := by obtain ⟨_, e, _⟩ := st.t1; exact lt e
  have n2 : s.heap.objs.size ≠ i2 := by obtain ⟨_, e, _⟩ := st.t2; exact lt e
  rcases st.st with ⟨hz, a, b, hTO⟩ | ⟨T, f, oT, hz, hT, r1, r2, r3, r4⟩
  · refine RZ.pyNext_zipT_item D hz st.pTI hTO st.t1 st.t2 st.a1 st.a2 ex ey fun h' q1 q2 q3 q4 q5 q6 hk => ?_
    exact hQ h' ⟨hk _ _ D.TIz D.TITO D.TIi1 D.TIi2 st.pTI, q3, q4, st.a1.at fun o e => hk _ o D.l1z D.l1TO D.l1i1 D.l1i2 e, st.a2.at fun o e => hk _ o D.l2z D.l2TO D.l2i1 D.l2i2 e,
      .inr ⟨s.heap.objs.size, false, _, q1, q5, lt hz, n1, n2, Nat.ne_of_gt hS⟩⟩ q5 hk
  · refine next_zipT_held D hz hT st.pTI st.t1 st.t2 st.a1 st.a2 ex ey fun h' q1 q3 q4 q5 q6 hk => ?_
    exact hQ h' ⟨hk _ _ D.TIz D.TIi1 D.TIi2 st.pTI, q3, q4, st.a1.at fun o e => hk _ o D.l1z D.l1i1 D.l1i2 e, st.a2.at fun o e => hk _ o D.l2z D.l2i1 D.l2i2 e,
      .inr ⟨T, true, oT, q1, hk _ _ r1 r2 r3 hT, r1, r2, r3, r4⟩⟩ q5 fun c o c1 _ c3 c4 e => hk c o c1 c3 c4 e
theorem zst_done {z TI TO i1 i2 l1 l2 S : Addr} {xs ys : Array Value} {i : Nat} {Q : Option Value → Shared → Prop} (hh : A.handled = none) (D : ZipApart z TI TO i1 i2 l1 l2) (st : ZSt z TI TO i1 i2 l1 l2 S xs ys i s.heap) (hend : xs[i]? = none ∨ ys[i]? = none)
    (hQ : ∀ h', (∀ c o, c ≠ z → c ≠ TO → c ≠ i1 → c ≠ i2 → s.heap.get? c = some o → h'.get? c = some o) → Q none { s with heap := h' }) : wpAny (model prog w) A (pyNext (.ref z)) Q E s := by
  rcases st.st with ⟨hz, a, b, hTO⟩ | ⟨T, f, oT, hz, hT, r1, r2, r3, r4⟩
  · exact RZ.pyNext_zipT_end hh D hz st.pTI hTO st.t1 st.t2 st.a1 st.a2 hend hQ
  · exact end_zipT_held hh D hz hT st.pTI st.t1 st.t2 st.a1 st.a2 hend fun h' hk => hQ h' fun c o c1 _ c3 c4 e => hk c o c1 c3 c4 e
end
/-- the pairs, at places that rise behind lo -/
structure ZG (xs ys : Array Value) (lo : Addr) (h : Heap) (as : List Addr) : Prop where
  rise : as.Pairwise (· < ·)
  above : ∀ a ∈ as, lo < a
  pairs : ∀ (j : Nat) (a : Addr), as[j]? = some a → ∃ x y, xs[j]? = some x ∧ ys[j]? = some y ∧ h.get? a = some { cls := .type "tuple", data := .seq #[x, y] }
section
variable {prog : Program} {w : World} {A : Around} {s : Shared} {R : Result → Shared → Prop}
theorem zl_loop {z TI TO i1 i2 l1 l2 S : Addr} {xs ys : Array Value} {n : Nat} (hh : A.handled = none) (D : ZipApart z TI TO i1 i2 l1 l2) (nz : z < S) (nTI : TI < S) (nTO : TO < S) (n1 : i1 < S) (n2 : i2 < S) (m1 : l1 < S) (m2 : l2 < S) (hn : n = min xs.size ys.size) (hz : n ≤ sizeLine) (res : Value) {h₁ : Heap}
    (hR : ∀ h' tk acc c as, (∀ b o, b ≠ S → b ≠ z → b ≠ TO → b ≠ i1 → b ≠ i2 → h₁.get? b = some o → h'.get? b = some o) → h'.get? S = some { cls := .type "list", dict := none, data := .seq acc c, slots := #[] } → as.length = n → ZG xs ys S h' as →
      acc.toList = as.map Value.ref → R (.ok (.ret res)) { s with heap := h', toks := tk }) :
    ∀ (k i : Nat) (h : Heap) (tk c : Nat) (acc : Array Value) (as : List Addr), n - i = k → i ≤ n → ZSt z TI TO i1 i2 l1 l2 S xs ys i h → (∀ b o, b ≠ S → b ≠ z → b ≠ TO → b ≠ i1 → b ≠ i2 → h₁.get? b = some o → h.get? b = some o) →
      h.get? S = some { cls := .type "list", dict := none, data := .seq acc c, slots := #[] } → acc.toList = as.map Value.ref → as.length = i → ZG xs ys S h as →
      codeAny (model prog w) A (.builtin "list.extend.loop" ⟨[.ref S, .ref z, res], []⟩) R { s with heap := h, toks := tk } := by
  intro k
  induction k with
  | zero =>
    intro i h tk c acc as hk hi st hkeep hS hacc hal G
    have hin : i = n := by omega
    have hend : xs[i]? = none ∨ ys[i]? = none := by
      rcases Nat.le_total xs.size ys.size with q | q
      · exact .inl (Array.getElem?_eq_none (by omega))
      · exact .inr (Array.getElem?_eq_none (by omega))
    refine codeAny_builtin PySem.F.entry_extend_loop ?_
    rw [Around.under_plainId PySem.F.plain_extend_loop _]
    show wpAny _ A.in1 (pyNext (.ref z) >>= _) _ _ _
    refine wpAny_bind (zst_done (s := { s with heap := h, toks := tk }) (A := A.in1) hh D st hend fun h' he => ?_)
    refine wpAny_pure (hR h' tk acc c as (fun b o c0 c1 c2 c3 c4 e => he b o c1 c2 c3 c4 (hkeep b o c0 c1 c2 c3 c4 e)) (he S _ (Nat.ne_of_gt nz) (Nat.ne_of_gt nTO) (Nat.ne_of_gt n1) (Nat.ne_of_gt n2) hS) (by omega) ⟨G.rise, G.above, fun j a hj => ?_⟩ hacc)
    obtain ⟨x, y, e1, e2, e3⟩ := G.pairs j a hj
    have ha := G.above a (List.mem_of_getElem? hj)
    exact ⟨x, y, e1, e2, he a _ (Nat.ne_of_gt (Nat.lt_trans nz ha)) (Nat.ne_of_gt (Nat.lt_trans nTO ha)) (Nat.ne_of_gt (Nat.lt_trans n1 ha)) (Nat.ne_of_gt (Nat.lt_trans n2 ha)) e3⟩
  | succ k ih =>
    intro i h tk c acc as hk hi st hkeep hS hacc hal G
    have hlt : i < n := by omega
    have ex : xs[i]? = some xs[i] := Array.getElem?_eq_getElem (by omega)
    have ey : ys[i]? = some ys[i] := Array.getElem?_eq_getElem (by omega)
    have hsz : acc.size = i := by rw [← Array.length_toList, hacc, List.length_map, hal]
    have hSl : S < h.objs.size := Heap.lt_size hS
    refine codeAny_builtin PySem.F.entry_extend_loop ?_
    rw [Around.under_plainId PySem.F.plain_extend_loop _]
    show wpAny _ A.in1 (pyNext (.ref z) >>= _) _ _ _
    refine wpAny_bind (zst_item (s := { s with heap := h, toks := tk }) (S := S) D st hSl ex ey fun h' st' ht hkp => ?_)
    have hS' := hkp S _ (Nat.ne_of_gt nz) (Nat.ne_of_gt nTO) (Nat.ne_of_gt n1) (Nat.ne_of_gt n2) hS
    have ht : h'.get? h.objs.size = some { cls := .type "tuple", data := .seq #[xs[i], ys[i]] } := ht
    have up : ∀ b o, b ≠ S → h'.get? b = some o → (h'.update S (Obj.mapSeq (·.push (Value.ref h.objs.size)))).get? b = some o := fun b o hb e => (Heap.get?_update_other _ _ (Ne.symm hb)).trans e
    show wpAny _ A.in1 (updateSeq S (·.push (Value.ref h.objs.size)) >>= _) _ _ _
    refine wpAny_bind ?_
    refine wpAny_updateSeq hS' rfl (wpAny_pure ⟨plainId_quiet PySem.F.plain_extend_loop _, ih (i + 1) _ tk _ (acc.push (Value.ref h.objs.size)) (as ++ [h.objs.size]) (by omega) hlt
      (st'.keep up (Nat.ne_of_lt nz) (Nat.ne_of_lt nTI) (Nat.ne_of_lt nTO) (Nat.ne_of_lt n1) (Nat.ne_of_lt n2) (Nat.ne_of_lt m1) (Nat.ne_of_lt m2))
      (fun b o c0 c1 c2 c3 c4 e => up b o c0 (hkp b o c1 c2 c3 c4 (hkeep b o c0 c1 c2 c3 c4 e))) (Heap.get?_update_self _ hS' rfl) (by rw [Array.toList_push, hacc, List.map_append]; rfl) (by rw [List.length_append, hal]; rfl) ⟨?_, ?_, ?_⟩⟩) (by rw [hsz]; omega) (by show (acc.push (Value.ref h.objs.size)).size ≤ sizeLine + 1; rw [Array.size_push, hsz]; omega)
    · refine List.pairwise_append.mpr ⟨G.rise, List.pairwise_singleton _ _, fun a ha b hb => ?_⟩
      rw [List.mem_singleton.mp hb]
      obtain ⟨j, hj⟩ := List.mem_iff_getElem?.mp ha
      obtain ⟨_, _, _, _, e⟩ := G.pairs j a hj
      exact Heap.lt_size e
    · intro a ha
      rcases List.mem_append.mp ha with ha | ha
      · exact G.above a ha
      · rw [List.mem_singleton.mp ha]; exact hSl
    · intro j b hj
      rcases Nat.lt_trichotomy j as.length with q | q | q
      · rw [List.getElem?_append_left q] at hj
        obtain ⟨x, y, e1, e2, e3⟩ := G.pairs j b hj
        have hb := G.above b (List.mem_of_getElem? hj)
        exact ⟨x, y, e1, e2, up b _ (Nat.ne_of_gt hb) (hkp b _ (Nat.ne_of_gt (Nat.lt_trans nz hb)) (Nat.ne_of_gt (Nat.lt_trans nTO hb)) (Nat.ne_of_gt (Nat.lt_trans n1 hb)) (Nat.ne_of_gt (Nat.lt_trans n2 hb)) e3)⟩
      · subst q
        have hb : h.objs.size = b := by simpa using hj
        subst hb
        exact ⟨xs[i], ys[i], by rw [hal]; exact ex, by rw [hal]; exact ey, up _ _ (Nat.ne_of_gt hSl) ht⟩
      · have none : (as ++ [h.objs.size])[j]? = none := List.getElem?_eq_none (by rw [List.length_append, List.length_singleton]; omega)
        rw [none] at hj; cases hj
end
theorem zip_no_len : typeLookup (.type "zip") "__len__" = pure none := am_miss_of_fast (by decide +kernel)
theorem zip_no_hint : typeLookup (.type "zip") "__length_hint__" = pure none := am_miss_of_fast (by decide +kernel)
section
variable {prog : Program} {w : World} {A : Around} {E : Value → Shared → Prop} {s : Shared}
theorem zip_hint {r : Addr} (hT : s.TypeIs (.ref r) "zip") {Q : Bool → Shared → Prop} (h : Q true s) : wpAny (model prog w) A (Builtin.List.listLengthHint (.ref r)) Q E s := by
  unfold Builtin.List.listLengthHint
  refine wpAny_bind (wpAny_specialOf hT zip_no_len ?_)
  show wpAny _ _ (specialOf (.ref r) "__length_hint__" >>= _) _ _ _
  refine wpAny_bind (wpAny_specialOf hT zip_no_hint ?_)
  exact wpAny_pure h
theorem zl_extend {z TI TO i1 i2 l1 l2 S : Addr} {xs ys : Array Value} {n : Nat} {R : Result → Shared → Prop} (hh : A.handled = none) (D : ZipApart z TI TO i1 i2 l1 l2) (nz : z < S) (nTI : TI < S) (nTO : TO < S) (n1 : i1 < S) (n2 : i2 < S) (m1 : l1 < S) (m2 : l2 < S) (hn : n = min xs.size ys.size) (hz : n ≤ sizeLine) (res : Value) (c₀ : Nat)
    (hS : s.heap.get? S = some { cls := .type "list", data := .seq #[] c₀ }) (iz : IsZip s.heap z TI TO .none) (st : ZSt z TI TO i1 i2 l1 l2 S xs ys 0 s.heap)
    (hR : ∀ h' tk acc c as, (∀ b o, b ≠ S → b ≠ z → b ≠ TO → b ≠ i1 → b ≠ i2 → s.heap.get? b = some o → h'.get? b = some o) → h'.get? S = some { cls := .type "list", dict := none, data := .seq acc c, slots := #[] } → as.length = n → ZG xs ys S h' as →
      acc.toList = as.map Value.ref → R (.ok (.ret res)) { s with heap := h', toks := tk }) :
    wpAny (model prog w) A.in1 (Builtin.List.listExtendWith (.ref S) (.ref z) res)
      (fun fin s' => match fin with | .done f => R (.ok f) s' | .again c' => c'.quiet = true ∧ codeAny (model prog w) A c' R s') (fun e s' => R (.error e) s') s := by
  have ty : s.TypeIs (.ref z) "zip" := ⟨_, iz, rfl⟩
  have key : ∀ (h : Heap) (c₁ tk : Nat), (∀ b o, b ≠ S → s.heap.get? b = some o → h.get? b = some o) → h.get? S = some { cls := .type "list", data := .seq #[] c₁ } →
      codeAny (model prog w) A (.builtin "list.extend.loop" ⟨[.ref S, .ref z, res], []⟩) R { s with heap := h, toks := tk } := by
    intro h c₁ tk hk hS₁
    exact zl_loop (s := s) (h₁ := s.heap) hh D nz nTI nTO n1 n2 m1 m2 hn hz res hR n 0 h tk c₁ #[] [] (Nat.sub_zero _) (Nat.zero_le _)
      (st.keep hk (Nat.ne_of_lt nz) (Nat.ne_of_lt nTI) (Nat.ne_of_lt nTO) (Nat.ne_of_lt n1) (Nat.ne_of_lt n2) (Nat.ne_of_lt m1) (Nat.ne_of_lt m2)) (fun b o c0 _ _ _ _ e => hk b o c0 e) hS₁ rfl rfl
      ⟨List.Pairwise.nil, (fun _ ha => nomatch ha), (fun j a hj => by simp at hj)⟩
  unfold Builtin.List.listExtendWith
  refine wpAny_bind (wpAny_typeOf (T := "zip") ty ?_)
  have q1 : Builtin.List.listSameRef (.ref S) (.ref z) = false := by simp [Builtin.List.listSameRef, Nat.ne_of_gt nz]
  have q2 : (Value.type "zip" == Value.type "list") = false := by decide
  have q3 : (Value.type "zip" == Value.type "tuple") = false := by decide
  simp only [q1, q2, q3, Bool.or_false, Bool.false_eq_true, if_false]
  refine wpAny_bind (wpAny_pyIter_zip iz ?_)
  refine wpAny_bind (wpAny_holding (zip_hint ty ?_))
  refine wpAny_ite_split (fun _ => ?_) (fun _ => wpAny_pure ⟨plainId_quiet PySem.F.plain_extend_loop _, key _ c₀ _ (fun b o _ e => e) hS⟩)
  refine wpAny_bind (wpAny_rule ?_)
  refine wpAny_bind ?_
  show wpAny _ _ (updateSeq S (·.push .none) >>= fun _ => updateSeq S (·.pop)) _ _ _
  refine wpAny_bind (wpAny_updateSeq hS rfl ?_)
  have hS₂ := Heap.get?_update_self (Obj.mapSeq (·.push Value.none)) hS rfl
  refine wpAny_updateSeq (hz := by seq_fits) hS₂ rfl ?_
  have hS₃ := Heap.get?_update_self (Obj.mapSeq (·.pop)) hS₂ rfl
  refine wpAny_pure ⟨plainId_quiet PySem.F.plain_extend_loop _, key _ _ _ (fun b o hb e => ?_) hS₃⟩
  exact (Heap.get?_update_other _ _ (Ne.symm hb)).trans ((Heap.get?_update_other _ _ (Ne.symm hb)).trans e)
theorem zl_init {z TI TO i1 i2 l1 l2 S : Addr} {xs ys : Array Value} {n : Nat} {R : Result → Shared → Prop} (hh : A.handled = none) (D : ZipApart z TI TO i1 i2 l1 l2) (nz : z < S) (nTI : TI < S) (nTO : TO < S) (n1 : i1 < S) (n2 : i2 < S) (m1 : l1 < S) (m2 : l2 < S) (hn : n = min xs.size ys.size) (hz : n ≤ sizeLine)
    (hS : s.heap.get? S = some { cls := .type "list", data := .seq #[] }) (iz : IsZip s.heap z TI TO .none) (st : ZSt z TI TO i1 i2 l1 l2 S xs ys 0 s.heap)
    (hR : ∀ h' tk acc c as, (∀ b o, b ≠ S → b ≠ z → b ≠ TO → b ≠ i1 → b ≠ i2 → s.heap.get? b = some o → h'.get? b = some o) → h'.get? S = some { cls := .type "list", dict := none, data := .seq acc c, slots := #[] } → as.length = n → ZG xs ys S h' as →
      acc.toList = as.map Value.ref → R (.ok (.ret .none)) { s with heap := h', toks := tk }) :
    wpAny (model prog w) A.in1 (Builtin.«list.__init__» ⟨[.ref S, .ref z], []⟩)
      (fun fin s' => match fin with | .done f => R (.ok f) s' | .again c' => c'.quiet = true ∧ codeAny (model prog w) A c' R s') (fun e s' => R (.error e) s') s := by
  show wpAny _ _ (do let old ← Builtin.List.listItems (.ref S); Builtin.List.listUpdate (.ref S) (fun _ => #[]); letGo old.toList.reverse; Builtin.List.listExtendWith (.ref S) (.ref z) .none) _ _ s
  refine wpAny_bind ?_
  unfold Builtin.List.listItems
  refine wpAny_bind (wpAny_seqItems hS rfl (wpAny_pure ?_))
  show wpAny _ _ (updateSeq S (fun _ => #[]) >>= fun _ => letGo (#[] : Array Value).toList.reverse >>= fun _ => Builtin.List.listExtendWith (.ref S) (.ref z) .none) _ _ s
  refine wpAny_bind (wpAny_updateSeq hS rfl ?_)
  have hS₂ := Heap.get?_update_self (Obj.mapSeq (fun _ => (#[] : Array Value))) hS rfl
  have oth : ∀ b o, b ≠ S → s.heap.get? b = some o → (s.heap.update S (Obj.mapSeq (fun _ => (#[] : Array Value)))).get? b = some o := fun b o hb e => (Heap.get?_update_other _ _ (Ne.symm hb)).trans e
  refine wpAny_bind (wpAny_letGo ?_)
  refine zl_extend (s := { s with heap := s.heap.update S (Obj.mapSeq (fun _ => (#[] : Array Value))) }) hh D nz nTI nTO n1 n2 m1 m2 hn hz .none _ hS₂ (oth _ _ (Nat.ne_of_lt nz) iz)
    (st.keep oth (Nat.ne_of_lt nz) (Nat.ne_of_lt nTI) (Nat.ne_of_lt nTO) (Nat.ne_of_lt n1) (Nat.ne_of_lt n2) (Nat.ne_of_lt m1) (Nat.ne_of_lt m2)) fun h' tk acc c as hk hS' hl hG hacc => ?_
  exact hR h' tk acc c as (fun b o c0 c1 c2 c3 c4 e => hk b o c0 c1 c2 c3 c4 (oth b o c0 e)) hS' hl hG hacc
theorem zl_call {z TI TO i1 i2 l1 l2 : Addr} {xs ys : Array Value} {n : Nat} {Q : Value → Shared → Prop} (hh : A.handled = none) (D : ZipApart z TI TO i1 i2 l1 l2) (hn : n = min xs.size ys.size) (hz : n ≤ sizeLine)
    (iz : IsZip s.heap z TI TO .none) (pTI : IsPair s.heap TI (.ref i1) (.ref i2)) (pTO : IsPair s.heap TO .none .none) (t1 : s.heap.IsTupleIter i1 l1 0) (t2 : s.heap.IsTupleIter i2 l2 0) (a1 : s.heap.IsTuple l1 xs) (a2 : s.heap.IsTuple l2 ys)
    (hQ : ∀ h' tk acc c as, (∀ b o, b ≠ z → b ≠ TO → b ≠ i1 → b ≠ i2 → s.heap.get? b = some o → h'.get? b = some o) → h'.get? s.heap.objs.size = some { cls := .type "list", dict := none, data := .seq acc c, slots := #[] } → as.length = n → ZG xs ys s.heap.objs.size h' as →
      acc.toList = as.map Value.ref → Q (.ref s.heap.objs.size) { s with heap := h', toks := tk }) :
    wpAny (model prog w) A (call (.type "list") [.ref z]) Q E s := by
  refine callType_codes (Q₁ := fun obj s₁ => obj = .ref s.heap.objs.size ∧ s₁ = { s with heap := s.heap.push { cls := .type "list", data := .seq #[] } }) PySem.F.called_list (PySem.F.typeCall_list_1 _) PySem.F.entry_list_init
    (code_list_new _ ⟨rfl, rfl⟩) fun obj s₁ h₁ => ?_
  obtain ⟨rfl, rfl⟩ := h₁
  have hS : (s.heap.push { cls := .type "list", data := .seq #[] }).get? s.heap.objs.size = some { cls := .type "list", data := .seq #[] } := Heap.get?_push_size _ rfl
  have kp : ∀ b o, s.heap.get? b = some o → (s.heap.push { cls := .type "list", data := .seq #[] }).get? b = some o := fun b o e => Heap.get?_push_of_some _ e
  have g1 : i1 < s.heap.objs.size := by obtain ⟨_, e, _⟩ := t1; exact Heap.lt_size e
  have g2 : i2 < s.heap.objs.size := by obtain ⟨_, e, _⟩ := t2; exact Heap.lt_size e
  have g3 : l1 < s.heap.objs.size := by obtain ⟨_, e, _⟩ := a1; exact Heap.lt_size e
  have g4 : l2 < s.heap.objs.size := by obtain ⟨_, e, _⟩ := a2; exact Heap.lt_size e
  refine ⟨⟨_, hS, rfl⟩, PySem.F.args_list_init_2 _ _, zl_init (s := { s with heap := s.heap.push { cls := .type "list", data := .seq #[] } }) (A := A.in1) hh D (Heap.lt_size iz) (Heap.lt_size pTI) (Heap.lt_size pTO) g1 g2 g3 g4 hn hz hS (kp _ _ iz)
    ⟨kp _ _ pTI, t1.at (kp _), t2.at (kp _), a1.at (kp _), a2.at (kp _), .inl ⟨kp _ _ iz, _, _, kp _ _ pTO⟩⟩ fun h' tk acc c as hk hS' hl hG hacc => ?_⟩
  exact ⟨rfl, hQ h' tk acc c as (fun b o c1 c2 c3 c4 e => hk b o (Nat.ne_of_lt (Heap.lt_size e)) c1 c2 c3 c4 (kp b o e)) hS' hl hG hacc⟩
end
end MI
namespace MI
open PySem PySem.Spec PyProof.Rows L2
/-- the pairs tracked at their places -/
def putP : Hp → List Addr → List (V × V) → Hp
  | H, a :: as, p :: ps => putP (upd H a (.tup [p.1, p.2])) as ps
  | H, _, _ => H
theorem putP_off {b : Addr} : ∀ (as : List Addr) (ps : List (V × V)) (H : Hp), b ∉ as → putP H as ps b = H b
  | [], _, _, _ => rfl
  | _ :: _, [], _, _ => rfl
  | a :: as, p :: ps, H, h => by
    have h1 : b ∉ as := fun q => h (List.mem_cons_of_mem _ q)
    have h2 : b ≠ a := fun q => h (by rw [q]; exact List.mem_cons_self)
    show putP (upd H a (.tup [p.1, p.2])) as ps b = H b
    rw [putP_off as ps _ h1, upd_ne h2]
theorem putP_at : ∀ (as : List Addr) (ps : List (V × V)) (H : Hp), as.length = ps.length → as.Nodup → ∀ (j : Nat) (a : Addr), as[j]? = some a → ∃ p : V × V, ps[j]? = some p ∧ putP H as ps a = some (.tup [p.1, p.2])
  | [], _, _, _, _, j, a, e => by simp at e
  | a :: as, [], _, h, _, _, _, _ => by cases h
  | a :: as, p :: ps, H, h, hn, 0, b, e => by
    have e : a = b := by simpa using e
    subst e
    refine ⟨p, rfl, ?_⟩
    show putP (upd H a (.tup [p.1, p.2])) as ps a = _
    rw [putP_off as ps _ (List.nodup_cons.mp hn).1, upd_same]
  | a :: as, p :: ps, H, h, hn, j + 1, b, e => by
    obtain ⟨q, h1, h2⟩ := putP_at as ps (upd H a (.tup [p.1, p.2])) (Nat.succ.inj h) (List.nodup_cons.mp hn).2 j b (by simpa using e)
    exact ⟨q, by simpa using h1, h2⟩
section
variable {X : Cx}
theorem zip_laid {pins : List (Addr × Obj)} {σ : L2.St} {H : Hp} {s : Shared} {h' : Heap} {tk : Nat} {S : Addr} {ps : List (V × V)} {acc : Array Value} {c : Nat} {as : List Addr} (I : Inv X pins σ H s) (hz : ps.length ≤ sizeLine) (hSl : s.heap.objs.size ≤ S)
    (hk : ∀ b o, s.heap.get? b = some o → h'.get? b = some o) (hS : h'.get? S = some { cls := .type "list", dict := none, data := .seq acc c, slots := #[] }) (hl : as.length = ps.length) (rise : as.Pairwise (· < ·)) (above : ∀ a ∈ as, S < a)
    (hp : ∀ (j : Nat) (a : Addr), as[j]? = some a → ∃ p u1 u2, ps[j]? = some p ∧ RelV p.1 u1 ∧ RelV p.2 u2 ∧ h'.get? a = some { cls := .type "tuple", data := .seq #[u1, u2] }) (hacc : acc.toList = as.map Value.ref) :
    ∃ H' : Hp, (∀ b, b ≠ S → b ∉ as → H' b = H b) ∧ H S = none ∧ (∀ t ∈ as, H t = none) ∧ S ∉ as ∧ H' S = some (.lst (as.map V.ref)) ∧ (∀ (j : Nat) (a : Addr), as[j]? = some a → ∃ p, ps[j]? = some p ∧ H' a = some (.tup [p.1, p.2])) ∧ Inv X pins σ H' { s with heap := h', toks := tk } := by
  have hSn : S ∉ as := fun q => Nat.lt_irrefl _ (above _ q)
  have nd : as.Nodup := List.Pairwise.imp (fun {a b} (h : a < b) => Nat.ne_of_lt h) rise
  have new : ∀ t ∈ as, H t = none := fun t ht => I.hok.fresh (Nat.le_trans hSl (Nat.le_of_lt (above t ht)))
  have newS : H S = none := I.hok.fresh hSl
  have atP := putP_at as ps (upd H S (.lst (as.map V.ref))) hl nd
  have off : ∀ b, b ≠ S → b ∉ as → putP (upd H S (.lst (as.map V.ref))) as ps b = H b := fun b h1 h2 => by rw [putP_off as ps _ h2, upd_ne h1]
  have low : ∀ b o, s.heap.get? b = some o → b ∉ as ∧ b ≠ S := fun b o e => by
    have hb := Heap.lt_size e
    exact ⟨fun q => Nat.lt_irrefl b (Nat.lt_trans (Nat.lt_of_lt_of_le hb hSl) (above b q)), Nat.ne_of_lt (Nat.lt_of_lt_of_le hb hSl)⟩
  have kp : ∀ b u, H b = some u → (putP (upd H S (.lst (as.map V.ref))) as ps) b = some u := fun b u e => by
    rw [off b (fun q => by rw [q, newS] at e; cases e) (fun q => by rw [new b q] at e; cases e)]
    exact e
  have eS : putP (upd H S (.lst (as.map V.ref))) as ps S = some (.lst (as.map V.ref)) := by rw [putP_off as ps _ hSn, upd_same]
  refine ⟨putP (upd H S (.lst (as.map V.ref))) as ps, off, newS, new, hSn, eS, atP, ?_⟩
  refine I.call' (ch := []) rfl ⟨fun b o q _ _ _ => hk b o q, fun b o q _ _ _ => ⟨o.slots, hk b o q⟩, fun b o q n _ => ?_, fun b o q _ => ⟨o, hk b o q⟩, fun b xs q => kp b _ q, fun b o u q => kp b _ q, fun b ps q => ⟨#[], by rw [kp b _ q]; simp⟩⟩ (fun b u q => ?_) I.bare fun b z => by simp at z
  · obtain ⟨z1, z2⟩ := low b o q
    rw [off b z2 z1]
    exact n
  · by_cases hb : b ∈ as
    · obtain ⟨j, hj⟩ := List.mem_iff_getElem?.mp hb
      obtain ⟨p, e2, e3⟩ := atP j b hj
      rw [e3] at q
      cases q
      obtain ⟨p', u1, u2, f1, f2, f3, f4⟩ := hp j b hj
      rw [e2] at f1
      cases f1
      exact ⟨by show 2 ≤ sizeLine; decide, [u1, u2], .cons f2 (.cons f3 .nil), ⟨_, f4, rfl, _, rfl⟩⟩
    · by_cases hb2 : b = S
      · rw [hb2] at q ⊢
        rw [eS] at q
        cases q
        refine ⟨by rw [List.length_map]; omega, acc.toList, c, by rw [hacc]; exact LiI.vals_refs as, ?_⟩
        rw [Array.toArray_toList]
        exact hS
      · rw [off b hb2 hb] at q
        exact (I.hok b u q).stay (fun d v _ y => hk d v y) (fun d y => kp d _ y) fun d xs y => kp d _ y
/-- list(zip(a, b)), tuples -/
def rZipL (K : PySem.W.Frag) : List V → Hp → VK → Prop := fun vs H Q => ∃ (a b : Addr) (xs ys : List V), vs = [.ref a, .ref b] ∧ SqT K H a xs ∧ SqT K H b ys ∧
  ∀ (H' : Hp) (p : Addr) (ts : List Addr), (∀ b, b ≠ p → b ∉ ts → H' b = H b) → H p = none → (∀ t ∈ ts, H t = none) → p ∉ ts → H' p = some (.lst (ts.map V.ref)) → ts.length = min xs.length ys.length → ts.Nodup →
    (∀ (j : Nat) (t : Addr), ts[j]? = some t → ∃ x y, xs[j]? = some x ∧ ys[j]? = some y ∧ H' t = some (.tup [x, y])) → Q (.ref p) H'
theorem vals_back {xs : List V} {us : List Value} (r : Vals xs us) {j : Nat} {u : Value} (h : us[j]? = some u) : ∃ v, xs[j]? = some v ∧ RelV v u := by
  have hj : j < xs.length := by
    have := (List.getElem?_eq_some_iff.mp h).1
    rw [r.length]
    exact this
  obtain ⟨u', h1, h2⟩ := r.get (List.getElem?_eq_getElem hj)
  rw [h] at h1
  cases h1
  exact ⟨_, List.getElem?_eq_getElem hj, h2⟩
theorem zip_get {xs ys : List V} {j : Nat} {p : V × V} (h : (xs.zip ys)[j]? = some p) : xs[j]? = some p.1 ∧ ys[j]? = some p.2 := by
  rw [List.getElem?_zip_eq_some] at h
  exact h
theorem pe_listZip {e e2 : Expr} {ta : TA} {p p2 cpos pos : Pos} (hc : X.calm = true) (hg : Gl X "list") (hm : X.mg "list" = none) (hg2 : Gl X "zip") (hm2 : X.mg "zip" = none) (ha : PA X [e, e2] ta)
    (hs : starEach [e, e2] X.env = (false, eval e X.env) :: starEach [e2] X.env) (hpl : (backTo cpos (starEach [e2] X.env)).any (·.1) = false) (hs0 : starEach [.Call (.Name "zip" p2) [e, e2] [] cpos] X.env = (false, eval (.Call (.Name "zip" p2) [e, e2] [] cpos) X.env) :: starEach [] X.env) :
    PE X (.Call (.Name "list" p) [.Call (.Name "zip" p2) [e, e2] [] cpos] [] pos) (fun σ H Q => ta σ H fun vs H1 => rZipL X.K vs H1 Q) := by
  refine ⟨fun pins s σ H Q I h => ?_⟩
  refine wpAny_Call_Name_kw (ld_blt I hg hm boot_list ?_)
  refine PyProof.Rows.callWith_type1 ?_ hs0 rfl
  rw [hs0]
  show wpAny _ _ (spliced ((false, eval (.Call (.Name "zip" p2) [e, e2] [] cpos) X.env) :: backTo pos (starEach [] X.env))) _ _ s
  refine Calls.spliced_cons ?_
  refine Call_ (ld_blt I hg2 hm2 PyProof.Rows.boot_zip (PyProof.Rows.callWith_type1 (thn (ha.run cpos pins s σ H _ I h) fun us s1 ⟨vs, H1, I1, r1, q1⟩ => ?_) hs hpl))
  obtain ⟨a, b, xs, ys, ex, hqx, hqy, q⟩ := q1
  subst ex
  cases r1 with
  | cons r rr =>
    cases rr with
    | cons r' rr =>
      cases rr
      cases r
      cases r'
      obtain ⟨its, rv, p1, z1⟩ := I1.tuple hqx
      obtain ⟨its2, rv2, p2', z2⟩ := I1.tuple hqy
      obtain ⟨o1, ho1, _⟩ := id p1
      obtain ⟨o2, ho2, _⟩ := id p2'
      have T1 : s1.heap.IsTuple a its.toArray := p1
      have T2 : s1.heap.IsTuple b its2.toArray := p2'
      have l1 := rv.length
      have l2 := rv2.length
      refine RZ.call_zipT T1 T2 fun h1 hz hTI hTO i1 i2 hsz hk => ?_
      refine Calls.spliced_nil ?_
      have D := PySem.W.ktu_apart s1.heap.objs.size a b (Heap.lt_size ho1) (Heap.lt_size ho2)
      refine zl_call (s := { s1 with heap := h1 }) (xs := its.toArray) (ys := its2.toArray) (n := min xs.length ys.length) (I1.ok.hd hc) D (by simp [l1, l2]) (Nat.le_trans (Nat.min_le_left _ _) (by simpa using z1)) hz hTI hTO i1 i2 (T1.at (hk _)) (T2.at (hk _)) fun h' tk acc c as hk' hS hl G hacc => ?_
      have hk2 : ∀ b o, s1.heap.get? b = some o → h'.get? b = some o := fun b o e => by
        have hb := Heap.lt_size e
        exact hk' b o (Nat.ne_of_lt (Nat.lt_of_lt_of_le hb (Nat.le_add_right _ _))) (Nat.ne_of_lt (Nat.lt_of_lt_of_le hb (Nat.le_add_right _ _))) (Nat.ne_of_lt hb) (Nat.ne_of_lt (Nat.lt_of_lt_of_le hb (Nat.le_add_right _ _))) (hk b o e)
      obtain ⟨H', k1, k2, k3, k4, k5, k6, J⟩ := zip_laid (tk := tk) (ps := xs.zip ys) (as := as) I1 (by rw [List.length_zip]; exact Nat.le_trans (Nat.min_le_left _ _) (by simpa using z1)) (S := h1.objs.size) (by rw [hsz]; exact Nat.le_add_right _ _) hk2 hS (by rw [hl, List.length_zip]) G.rise G.above (fun j t hj => by
        obtain ⟨u1, u2, e1, e2, e3⟩ := G.pairs j t hj
        have e1 : its[j]? = some u1 := by simpa using e1
        have e2 : its2[j]? = some u2 := by simpa using e2
        obtain ⟨v1, w1, r1⟩ := vals_back rv e1
        obtain ⟨v2, w2, r2⟩ := vals_back rv2 e2
        exact ⟨(v1, v2), u1, u2, by rw [List.getElem?_zip_eq_some]; exact ⟨w1, w2⟩, r1, r2, e3⟩) hacc
      refine ⟨.ref h1.objs.size, H', J, rfl, q H' h1.objs.size as k1 k2 k3 k4 k5 hl (List.Pairwise.imp (fun {a b} (h : a < b) => Nat.ne_of_lt h) G.rise) fun j t hj => ?_⟩
      obtain ⟨p, e1, e2⟩ := k6 j t hj
      obtain ⟨f1, f2⟩ := zip_get e1
      exact ⟨p.1, p.2, f1, f2, e2⟩
end
variable {K : PySem.W.Frag} {F F' : Fz} {H H' : Hp} {O O' : Fz} {σ : L2.St} {ρ ρ' : Env} {xr : XRep} {W : WX}
theorem StI.grow (S : StI K F H O σ ρ) (off : ∀ b, H b ≠ none → H' b = H b) : StI K F H' O σ ρ := by
  have x : Ext F H F H' := fun a f => ⟨f, off a (S.dom a f)⟩
  have ne : ∀ {a : Addr} {o : HO}, H a = some o → H' a = some o := fun e => (off _ (by rw [e]; simp)).trans e
  refine ⟨S.len, fun i m e => ?_, fun a f => by rw [(x a f).2]; exact S.dom a f, fun a q => ⟨by rw [off a (S.odom a q).1]; exact (S.odom a q).1, (S.odom a q).2⟩, S.sep⟩
  obtain ⟨v, h1, h2⟩ := S.var i m e
  refine ⟨v, h1, ?_⟩
  cases m with
  | sh d => exact Dat.ext x h2
  | ol p' xs =>
    obtain ⟨a, vs, e, oa, ha, hd⟩ := h2
    exact ⟨a, vs, e, oa, ne ha, Dats.ext x hd⟩
  | od p' xs =>
    obtain ⟨a, vs, e, oa, ha, hd, hd2⟩ := h2
    exact ⟨a, vs, e, oa, ne ha, Dats.ext x hd, Dats.ext x hd2⟩
  | ob C fs => exact h2
  | sc ns =>
    obtain ⟨a, e, h⟩ := h2
    rcases h with ⟨f, r⟩ | r
    · exact ⟨a, e, .inl ⟨f, Rd.ext (x a f).2 r⟩⟩
    · exact ⟨a, e, .inr r⟩
theorem dats_get : ∀ {vs : List V} {ds : List D}, vs.length = ds.length → (∀ (j : Nat) (v : V) (d : D), vs[j]? = some v → ds[j]? = some d → Dat K F H v d) → Dats K F H vs ds
  | [], [], _, _ => .nil
  | [], _ :: _, h, _ => by cases h
  | _ :: _, [], h, _ => by cases h
  | v :: vs, d :: ds, h, k => .cons (k 0 v d rfl rfl) (dats_get (by simpa using h) fun j w e h1 h2 => k (j + 1) w e (by simpa using h1) (by simpa using h2))
section
variable {X : Cx} {cx : Cxt}
theorem tup_parts {v : V} {ds : List D} (h : Dat K F H v (.tuple ds)) : ∃ a vs, v = .ref a ∧ SqT K H a vs ∧ Dats K F H vs ds := by
  obtain ⟨a, vs, e, h1, h2⟩ := Dat1.tup (.sh h)
  exact ⟨a, vs, e, h1, h2⟩
theorem pd_lzip {a b : Expr} {x y : Ex} {p p2 cpos pos : Pos} (hc : X.calm = true) (hg : Gl X "list") (hm : X.mg "list" = none) (hg2 : Gl X "zip") (hm2 : X.mg "zip" = none) (hs : noStar a = true) (hs2 : noStar b = true) (ha : PD X xr W a (evE cx x)) (hb : PD X xr W b (evE cx y)) :
    PD X xr W (.Call (.Name "list" p) [.Call (.Name "zip" p2) [a, b] [] cpos] [] pos) (evE cx (.lzip x y)) := by
  obtain ⟨ta, pa, ka⟩ := ha.frz.run
  obtain ⟨tb, pb, kb⟩ := hb.frz.run
  refine ⟨_, pe_listZip hc hg hm hg2 hm2 (pa_cons pa (pa_cons pb pa_nil (star_one hs2 _ _)) (star_one hs _ _)) (star_one hs _ _) (star_no (by simp [hs2]) _ _) (star_one rfl _ _), fun F H O σ ρ Q S w => ?_⟩
  simp only [evE] at w
  refine ka F H O σ ρ _ S (WantG.seq .refl (.refl _) w fun d1 ρ1 F1 H1 O1 v1 S1 _ t1 p1 h1 w => ?_)
  refine kb F1 H1 O1 σ ρ1 _ S1 (WantG.seq t1 p1 w fun d2 ρ2 F2 H2 O2 v2 S2 t12 t2 p2 h2 w => ?_)
  obtain ⟨res, he, w⟩ := w.lift
  have h1' := Dat.ext (S1.ext t12) h1
  cases d1 with
  | tuple xs =>
    cases d2 with
    | tuple ys =>
      cases he
      obtain ⟨l1, vs1, rfl, q1, dt1⟩ := tup_parts h1'
      obtain ⟨l2, vs2, rfl, q2, dt2⟩ := tup_parts h2
      refine ⟨l1, l2, vs1, vs2, rfl, q1, q2, fun H' q ts off nq nt qt hq hl nd hp => ?_⟩
      have ext : ∀ b, H2 b ≠ none → H' b = H2 b := fun b hb => off b (fun e => hb (by rw [e]; exact nq)) fun e => hb (nt b e)
      have S3 : StI X.K F2 H' O2 σ ρ2 := S2.grow ext
      have inH : ∀ t ∈ ts, H' t ≠ none ∧ ¬ O2 t := fun t ht => by
        obtain ⟨j, hj⟩ := List.mem_iff_getElem?.mp ht
        obtain ⟨x, y, _, _, e⟩ := hp j t hj
        exact ⟨by rw [e]; simp, fun o => (S2.odom t o).1 (nt t ht)⟩
      have S4 : StI X.K (fun b => F2 b ∨ b ∈ ts) H' O2 σ ρ2 := S3.more _ inH
      have x24 : Ext F2 H2 (fun b => F2 b ∨ b ∈ ts) H' := fun c f => ⟨.inl f, ext c (S2.dom c f)⟩
      have t24 : Stp F2 H2 O2 (fun b => F2 b ∨ b ∈ ts) H' O2 := ⟨fun _ h => .inl h, fun c h => by
        rcases h with h | h
        · exact .inl h
        · exact .inr (.inl (nt c h)), fun _ h => .inl h, fun c h _ => ext c h, fun c h => by rw [ext c h]; exact h⟩
      refine w _ _ _ _ S4 (t2.trans t24) p2 ⟨q, ts.map V.ref, rfl, fun f => ?_, fun o => (S2.odom q o).1 nq, t2.none nq, hq, dats_get ?_ fun j v d hv hd => ?_⟩
      · rcases f with f | f
        · exact S2.dom q f nq
        · exact qt f
      · rw [List.length_map, hl, zipD_len, dt1.length, dt2.length]
      · rw [List.getElem?_map, Option.map_eq_some_iff] at hv
        obtain ⟨t, ht, rfl⟩ := hv
        obtain ⟨u1, u2, e1, e2, e3⟩ := hp j t ht
        obtain ⟨da, db, g1, g2, rfl⟩ := zipD_get hd
        obtain ⟨w1, k1, k2⟩ := dt1.get g1
        obtain ⟨w2, k3, k4⟩ := dt2.get g2
        rw [e1] at k1
        rw [e2] at k3
        cases k1
        cases k3
        exact .tup (.inr (List.mem_of_getElem? ht)) e3 (.cons (Dat.ext x24 k2) (.one (Dat.ext x24 k4)))
    | _ => cases he
  | _ => cases he
end
end MI
namespace MI
open PySem PySem.Spec PyProof.Rows L2
variable {K : PySem.W.Frag} {F F' : Fz} {H H' : Hp} {O O' : Fz} {σ σ' : L2.St} {ρ ρ' : Env}
/-! ### slots are set -/
structure PinS (σ : L2.St) (ρ : Env) (σ' : L2.St) (ρ' : Env) : Prop where
  pin : Pin ρ ρ'
  sl : ∀ i m, ρ.get i = some m → m.pinned = true → σ'[i]? = σ[i]?
theorem PinS.refl (σ : L2.St) (ρ : Env) : PinS σ ρ σ ρ := ⟨.refl _, fun _ _ _ _ => rfl⟩
theorem PinS.of (p : Pin ρ ρ') : PinS σ ρ σ ρ' := ⟨p, fun _ _ _ _ => rfl⟩
theorem PinS.trans {σ1 σ2 : L2.St} {ρ1 ρ2 : Env} (a : PinS σ ρ σ1 ρ1) (b : PinS σ1 ρ1 σ2 ρ2) : PinS σ ρ σ2 ρ2 := ⟨a.pin.trans b.pin, fun i m h p => by
  obtain ⟨m1, h1, p1⟩ := a.pin.2 i m h p
  exact (b.sl i m1 h1 p1).trans (a.sl i m h p)⟩
theorem PinS.then {ρ1 : Env} (a : PinS σ ρ σ' ρ') (b : Pin ρ' ρ1) : PinS σ ρ σ' ρ1 := a.trans (.of b)
def SameOut (vs : List Nat) (σ σ' : L2.St) : Prop := σ'.length = σ.length ∧ ∀ i, i ∉ vs → σ'[i]? = σ[i]?
theorem SameOut.refl (vs : List Nat) (σ : L2.St) : SameOut vs σ σ := ⟨rfl, fun _ _ => rfl⟩
theorem SameOut.trans {vs ws : List Nat} {σ1 σ2 : L2.St} (a : SameOut vs σ σ1) (b : SameOut ws σ1 σ2) : SameOut (vs ++ ws) σ σ2 := ⟨b.1.trans a.1, fun i h => by
  simp only [List.mem_append, not_or] at h
  exact (b.2 i h.2).trans (a.2 i h.1)⟩
theorem free_iff {i : Nat} (h : free ρ i = true) : i < ρ.length ∧ ∀ m, ρ.get i = some m → m.pinned = false := by
  unfold free at h
  simp only [Bool.and_eq_true, decide_eq_true_eq] at h
  refine ⟨h.1, fun m e => ?_⟩
  have h2 := h.2
  rw [e] at h2
  simpa using h2
theorem pins_set {i : Nat} {o : Option V} {m : Option M} (h : free ρ i = true) : PinS σ ρ (σ.set i o) (ρ.set i m) := by
  obtain ⟨h1, h2⟩ := free_iff h
  refine ⟨.set fun m' e p => ?_, fun j m' e p => ?_⟩
  · rw [h2 m' e] at p; cases p
  · by_cases q : i = j
    · subst q
      rw [h2 m' e] at p; cases p
    · exact List.getElem?_set_ne q
theorem StI.store {i : Nat} {v : V} {m : M} (S : StI K F H O σ ρ) (hf : free ρ i = true) (rm : RepM K F H O v m) (hs : m.isOwn = true → ∀ j m', j ≠ i → ρ.get j = some m' → m'.isOwn = true → σ[j]? ≠ some (some v)) :
    StI K F H O (σ.set i (some v)) (ρ.set i (some m)) := by
  obtain ⟨h1, h2⟩ := free_iff hf
  have hi : i < σ.length := by rw [S.len]; exact h1
  refine ⟨by rw [List.length_set, List.length_set]; exact S.len, fun j mj ej => ?_, S.dom, S.odom, fun j k b m1 m2 ne e1 e2 o1 o2 q1 q2 => ?_⟩
  · rcases get_set_cases ej with ⟨rfl, q⟩ | ⟨ne, q⟩
    · cases q
      exact ⟨v, List.getElem?_set_self hi, rm⟩
    · obtain ⟨u, g1, g2⟩ := S.var j mj q
      exact ⟨u, (List.getElem?_set_ne ne).trans g1, g2⟩
  · rcases get_set_cases e1 with ⟨rfl, c1⟩ | ⟨n1, c1⟩
    · rcases get_set_cases e2 with ⟨rfl, c2⟩ | ⟨n2, c2⟩
      · exact ne rfl
      · cases c1
        rw [List.getElem?_set_self hi] at q1
        cases q1
        rw [List.getElem?_set_ne n2] at q2
        exact hs o1 k m2 (fun e => n2 e.symm) c2 o2 q2
    · rcases get_set_cases e2 with ⟨rfl, c2⟩ | ⟨n2, c2⟩
      · cases c2
        rw [List.getElem?_set_self hi] at q2
        cases q2
        rw [List.getElem?_set_ne n1] at q1
        exact hs o2 j m1 (fun e => n1 e.symm) c1 o1 q1
      · rw [List.getElem?_set_ne n1] at q1
        rw [List.getElem?_set_ne n2] at q2
        exact S.sep j k b m1 m2 ne c1 c2 o1 o2 q1 q2
theorem gd_some' {α : Type} {b : Bool} {a c : α} (h : gd b a = some c) : b = true ∧ c = a := ⟨(gd_some h).1, (gd_some h).2.symm⟩
/-! ### targets -/
def canG (K : PySem.W.Frag) (tg : Tg) : TG := fun v σ H Q => ∃ F O ρ d ρ', StI K F H O σ ρ ∧ Dat K F H v d ∧ Tg.put tg d ρ = some ρ' ∧ ∀ σ', StI K F H O σ' ρ' → SameOut tg.vars σ σ' → PinS σ ρ σ' ρ' → Q σ' H
def canGs (K : PySem.W.Frag) (tgs : List Tg) : TGs := fun vs σ H Q => ∃ F O ρ ds ρ', StI K F H O σ ρ ∧ Dats K F H vs ds ∧ Tg.puts tgs ds ρ = some ρ' ∧ ∀ σ', StI K F H O σ' ρ' → SameOut (Tg.varss tgs) σ σ' → PinS σ ρ σ' ρ' → Q σ' H
theorem assign_one {e : Expr} (h : noStar e = true) (es : List Expr) (env : PySem.Env) : assignEach (e :: es) env = (false, assign e env) :: assignEach es env := by
  cases e <;> first | rfl | cases h
theorem assign_len : ∀ {es : List Expr}, es.all noStar = true → ∀ env : PySem.Env, (assignEach es env).length = es.length ∧ (assignEach es env).findIdx? (·.1) = none
  | [], _, _ => ⟨rfl, rfl⟩
  | e :: es, h, env => by
    have h' : noStar e = true ∧ es.all noStar = true := by simpa using h
    obtain ⟨h1, h2⟩ := assign_len h'.2 env
    rw [assign_one h'.1]
    exact ⟨by simp [h1], by simp [List.findIdx?_cons, h2]⟩
section
variable {X : Cx} {xr : XRep} {W : WX} {cx : Cxt}
theorem gd_name {i : Nat} {x : Str} {pos : Pos} (hN : X.N.Nodup) (hi : X.N[i]? = some x) (hx : Loc X.env.scope x) (hf : X.fn x = true ∨ X.env.scope.names.lookup x = some .local) : PG X (.Name x pos) (canG X.K (.name i)) := by
  refine ⟨fun pins s σ H v u Q I r h => (pg_name hN hi hx hf).run pins s σ H v u Q I r ?_⟩
  obtain ⟨F, O, ρ, d, ρ', S, hd, hp, q⟩ := h
  simp only [Tg.put] at hp
  obtain ⟨g, rfl⟩ := gd_some' hp
  refine q _ (S.store g (show RepM X.K F H O v (.sh d) from hd) fun z => by cases z) ⟨List.length_set, fun j hj => ?_⟩ (pins_set g)
  have : i ≠ j := fun e => hj (by simp [Tg.vars, e])
  exact List.getElem?_set_ne this
theorem gds_nil : PGs X [] (canGs X.K []) := by
  refine ⟨fun pins s σ H vs us Q I r h => pgs_nil.run pins s σ H vs us Q I r ?_⟩
  obtain ⟨F, O, ρ, ds, ρ', S, hd, hp, q⟩ := h
  cases ds with
  | nil =>
    cases hd
    cases hp
    exact ⟨rfl, q σ S (.refl _ _) (.refl _ _)⟩
  | cons d ds => cases hp
theorem gds_cons {e : Expr} {es : List Expr} {t : Tg} {ts : List Tg} (h1 : PG X e (canG X.K t)) (h2 : PGs X es (canGs X.K ts)) (hs : noStar e = true) : PGs X (e :: es) (canGs X.K (t :: ts)) := by
  refine ⟨fun pins s σ H vs us Q I r h => (pgs_cons h1 h2 (by rw [assign_one hs]; rfl)).run pins s σ H vs us Q I r ?_⟩
  obtain ⟨F, O, ρ, ds, ρ', S, hd, hp, q⟩ := h
  cases ds with
  | nil => cases hp
  | cons d ds =>
    cases hd with
    | cons d1 d2 =>
      simp only [Tg.puts, Option.bind_eq_some_iff] at hp
      obtain ⟨ρ1, p1, p2⟩ := hp
      refine ⟨_, _, rfl, F, O, ρ, d, ρ1, S, d1, p1, fun σ1 S1 o1 n1 => ⟨F, O, ρ1, ds, ρ', S1, d2, p2, fun σ2 S2 o2 n2 => ?_⟩⟩
      exact q σ2 S2 (o1.trans o2) (n1.trans n2)
theorem gd_tup {es : List Expr} {k : Nat} {pos : Pos} {ts : List Tg} (hc : X.calm = true) (h : PGs X es (canGs X.K ts)) (hs : es.all noStar = true) (hl : es.length = ts.length) : PG X (.Tuple es k pos) (canG X.K (.tup ts)) := by
  obtain ⟨e1, e2⟩ := assign_len hs X.env
  refine ⟨fun pins s σ H v u Q I r h' => ?_⟩
  obtain ⟨F, O, ρ, d, ρ', S, hd, hp, q⟩ := h'
  have len : ∀ {ts : List Tg} {ds : List D} {ρ ρ' : Env}, Tg.puts ts ds ρ = some ρ' → ts.length = ds.length := by
    intro ts
    induction ts with
    | nil => intro ds ρ ρ' h; cases ds <;> first | rfl | cases h
    | cons t ts ih =>
      intro ds ρ ρ' h
      cases ds with
      | nil => cases h
      | cons d ds =>
        simp only [Tg.puts, Option.bind_eq_some_iff] at h
        obtain ⟨_, _, h⟩ := h
        simp [ih h]
  have hd1 : Dat1 X.K F H v d := .sh hd
  cases d <;> try (simp only [Tg.put] at hp; cases hp; done)
  · obtain ⟨a, vs, rfl, ha, da⟩ := hd1.lst
    simp only [Tg.put] at hp
    exact (pg_lst (n := vs.length) hc h (by rw [e1, hl, len hp, da.length]) e2).run pins s σ H _ u Q I r ⟨a, vs, rfl, SqL.of ha, rfl, F, O, ρ, _, ρ', S, da, hp, fun σ' S' o' n' => q σ' S' (by simpa [Tg.vars] using o') n'⟩
  · obtain ⟨a, vs, rfl, ha, da⟩ := hd1.tup
    simp only [Tg.put] at hp
    exact (pg_tup (n := vs.length) hc h (by rw [e1, hl, len hp, da.length]) e2).run pins s σ H _ u Q I r ⟨a, vs, rfl, ha, rfl, F, O, ρ, _, ρ', S, da, hp, fun σ' S' o' n' => q σ' S' (by simpa [Tg.vars] using o') n'⟩
end
/-! ### forgotten, brought back -/
theorem wipeE_len (ρ : Env) : ∀ vs, (wipeE ρ vs).length = ρ.length
  | [] => rfl
  | v :: vs => by simp [wipeE, wipeE_len ρ vs]
theorem backE_len (ρ ρ0 : Env) : ∀ vs, (backE ρ ρ0 vs).length = ρ.length
  | [] => rfl
  | v :: vs => by simp [backE, backE_len ρ ρ0 vs]
theorem wipeE_out {i : Nat} : ∀ {vs : List Nat}, i ∉ vs → Env.get (wipeE ρ vs) i = ρ.get i
  | [], _ => rfl
  | v :: vs, h => by
    simp only [List.mem_cons, not_or] at h
    rw [wipeE, get_set_ne (fun e => h.1 e.symm)]
    exact wipeE_out h.2
theorem wipeE_some {i : Nat} {m : M} : ∀ {vs : List Nat}, Env.get (wipeE ρ vs) i = some m → i ∉ vs ∧ ρ.get i = some m
  | [], h => ⟨by simp, h⟩
  | v :: vs, h => by
    rcases get_set_cases (show Env.get ((wipeE ρ vs).set v none) i = some m from h) with ⟨_, q⟩ | ⟨ne, q⟩
    · cases q
    · obtain ⟨h1, h2⟩ := wipeE_some q
      exact ⟨by simp only [List.mem_cons, not_or]; exact ⟨fun e => ne e.symm, h1⟩, h2⟩
theorem backE_out {ρ0 : Env} {i : Nat} : ∀ {vs : List Nat}, i ∉ vs → Env.get (backE ρ ρ0 vs) i = ρ.get i
  | [], _ => rfl
  | v :: vs, h => by
    simp only [List.mem_cons, not_or] at h
    rw [backE, get_set_ne (fun e => h.1 e.symm)]
    exact backE_out h.2
theorem backE_in {ρ0 : Env} {i : Nat} : ∀ {vs : List Nat}, i ∈ vs → (∀ v ∈ vs, v < ρ.length) → Env.get (backE ρ ρ0 vs) i = ρ0.get i
  | v :: vs, h, hl => by
    by_cases e : v = i
    · subst e
      rw [backE, get_set_self]
      rw [backE_len]
      exact hl v List.mem_cons_self
    · rw [backE, get_set_ne e]
      rcases List.mem_cons.mp h with q | q
      · exact absurd q.symm e
      · exact backE_in q fun w hw => hl w (List.mem_cons_of_mem _ hw)
theorem StI.wipe (S : StI K F H O σ ρ) (vs : List Nat) : StI K F H O (L2.wipe σ vs) (wipeE ρ vs) := by
  refine ⟨by rw [wipe_length, wipeE_len]; exact S.len, fun i m e => ?_, S.dom, S.odom, fun i j a m1 m2 ne e1 e2 o1 o2 q1 q2 => ?_⟩
  · obtain ⟨h1, h2⟩ := wipeE_some e
    obtain ⟨v, g1, g2⟩ := S.var i m h2
    exact ⟨v, (wipe_out h1).trans g1, g2⟩
  · obtain ⟨a1, b1⟩ := wipeE_some e1
    obtain ⟨a2, b2⟩ := wipeE_some e2
    exact S.sep i j a m1 m2 ne b1 b2 o1 o2 ((wipe_out a1).symm.trans q1) ((wipe_out a2).symm.trans q2)
theorem same_wipe : ∀ {vs : List Nat}, SameOut vs σ σ' → L2.wipe σ' vs = L2.wipe σ vs := by
  intro vs h
  apply List.ext_getElem?
  intro i
  by_cases hi : i ∈ vs
  · have key : ∀ (τ : L2.St) (ws : List Nat), i ∈ ws → (L2.wipe τ ws)[i]? = if i < τ.length then some none else none := by
      intro τ ws
      induction ws with
      | nil => intro h; cases h
      | cons w ws ih =>
        intro h
        unfold L2.wipe
        by_cases e : w = i
        · subst e
          rw [List.getElem?_set]
          simp [wipe_length]
        · rw [List.getElem?_set_ne e]
          rcases List.mem_cons.mp h with q | q
          · exact absurd q.symm e
          · exact ih q
    rw [key σ' vs hi, key σ vs hi, h.1]
  · rw [wipe_out hi, wipe_out hi]
    exact h.2 i hi
end MI
namespace MI
open PySem PySem.Spec PyProof.Rows L2
variable {K : PySem.W.Frag} {F F' : Fz} {H H' : Hp} {O O' : Fz} {σ σ' : L2.St} {ρ ρ' : Env}
/-- nothing may be raised -/
def W0 : WX := fun _ _ _ _ => False
def condEv (cx : Cxt) (c : Option Ex) (ρ : Env) : Out Bool := match c with
  | none => .ok true ρ
  | some c => evT cx c ρ
def turnEv (cx : Cxt) (elt : Ex) (tg : Tg) (c : Option Ex) (d : D) (ρ : Env) : Out (Option D) := match Tg.put tg d (wipeE ρ tg.vars) with
  | none => .no
  | some ρ => (condEv cx c ρ).bind fun k ρ => if k then (((evE cx elt ρ).bind MI.frz).bind fun d ρ => .ok (some d) ρ) else .ok none ρ
def keepOk (vs : List Nat) (ρ : Env) : Bool := vs.all fun v => v < ρ.length && match ρ.get v with | some m => !m.isOwn | none => true
theorem evE_comp (cx : Cxt) (elt : Ex) (tg : Tg) (it : It) (c : Option Ex) (ρ : Env) : evE cx (.comp elt tg it c) ρ = (evI cx it ρ).bind fun items ρ1 =>
    if keepOk tg.vars ρ1 then (match compL (turnEv cx elt tg c) items [] ρ1 with
      | .ok acc ρ2 => .ok (.new acc) (backE ρ2 ρ1 tg.vars)
      | _ => .no) else .no := by
  rw [evE]
  rfl
structure PDc (X : Cx) (xr : XRep) (W : WX) (ifs : List Expr) (ev : Env → Out Bool) : Prop where
  run : PTs X ifs (canT X.K xr W ev)
section
variable {X : Cx} {xr : XRep} {W : WX} {cx : Cxt}
theorem pdc_nil : PDc X xr W [] (condEv cx none) := ⟨⟨fun pins s σ H Q I ⟨F, O, ρ, S, w⟩ => pts_nil.run pins s σ H Q I (w F H O true S .refl (.refl _) rfl)⟩⟩
theorem pdc_one {c : Expr} {x : Ex} (h : PDt X xr W c (evT cx x)) : PDc X xr W [c] (condEv cx (some x)) := ⟨⟨fun pins s σ H Q I w => (pts_one h.can).run pins s σ H Q I w⟩⟩
/-- at a turn -/
structure LcAt (K : PySem.W.Frag) (F1 : Fz) (H1 : Hp) (O1 : Fz) (σ : L2.St) (ρ1 : Env) (vs : List Nat) (A : Addr) (acc : List D) (ρi : Env) (F : Fz) (H : Hp) (O : Fz) : Prop where
  st : StI K F H O (L2.wipe σ vs) (wipeE ρi vs)
  stp : Stp F1 H1 O1 F H O
  pin : Pin (wipeE ρ1 vs) (wipeE ρi vs)
  acc : ∃ ws, H A = some (.lst ws) ∧ Dats K F H ws acc
  nf : ¬ F A
  no : ¬ O A
theorem stp_side {F0 O0 : Fz} {H0 : Hp} {a : Addr} {o : HO} (t : Stp F0 H0 O0 F H O) (n : H0 a = none) : Stp F0 H0 O0 F (upd H a o) O where
  fz := t.fz
  fz' := t.fz'
  ow := t.ow
  hp := fun b h no => by rw [upd_ne fun (e : b = a) => h (e ▸ n)]; exact t.hp b h no
  all := fun b h => by rw [upd_ne fun (e : b = a) => h (e ▸ n)]; exact t.all b h
theorem comp_run {wi : TI} {own : List (Str × Nat)} {x : Ex} {tg : Tg} {it : It} {c : Option Ex} (ki : ∀ F H O σ ρ R, StI X.K F H O σ ρ → WantG X.K xr W (fun F' H' O' J ds => WalkD X.K F' H' J ds) σ F H O ρ (evI cx it ρ) R → wi σ H R) (hv : own.map (·.2) = tg.vars) :
    RunE X xr W (tLc wi (canG X.K tg) (canT X.K xr W0 (condEv cx c)) (canE X.K xr W0 (evE cx x)) (own.map (·.2))) (evE cx (.comp x tg it c)) := by
  intro F H O σ ρ Q S w
  rw [evE_comp] at w
  refine ki F H O σ ρ _ S (WantG.seq .refl (.refl _) w fun items ρ1 F1 H1 O1 J S1 _ t1 p1 wd w1 => ?_)
  split at w1
  · rename_i hk
    split at w1
    · rename_i accE ρ2 hL
      intro A hA
      rw [hv]
      have hkeep : ∀ v ∈ tg.vars, v < ρ1.length ∧ ∀ m, ρ1.get v = some m → m.isOwn = false := fun v hv => by
        have := List.all_eq_true.mp hk v hv
        simp only [Bool.and_eq_true, decide_eq_true_eq] at this
        refine ⟨this.1, fun m e => ?_⟩
        have h2 := this.2
        rw [e] at h2
        simpa using h2
      refine ⟨fun i m H' => m = items.length - i ∧ i ≤ items.length ∧ ∃ F' O' acc ρi, LcAt X.K F1 H1 O1 σ ρ1 tg.vars A acc ρi F' H' O' ∧ compL (turnEv cx x tg c) (items.drop i) acc ρi = .ok accE ρ2, ⟨items.length, by simp, Nat.zero_le _, F1, O1, [], ρ1, ⟨(S1.side (S1.nof hA) (S1.noo hA)).wipe _, stp_side .refl hA, .refl _, ⟨[], upd_same, .nil⟩, S1.nof hA, S1.noo hA⟩, by simpa using hL⟩, ?_⟩
      rintro i m H2 ⟨rfl, hi, F2, O2, acc, ρi, L, hcl⟩
      have xt : Ext F1 H1 F2 H2 := S1.ext L.stp
      by_cases hlt : i < items.length
      · refine .inr ⟨wd.go i F2 H2 xt hlt, fun H' => i + 1 ≤ items.length ∧ ∃ F' O' acc ρi, LcAt X.K F1 H1 O1 σ ρ1 tg.vars A acc ρi F' H' O' ∧ compL (turnEv cx x tg c) (items.drop (i + 1)) acc ρi = .ok accE ρ2, fun H' ⟨h1, h2⟩ => ⟨items.length - (i + 1), by omega, rfl, h1, h2⟩, fun y H3 hy => ?_⟩
        have hd : items[i]? = some items[i] := by simp [hlt]
        have nr := wd.yld i items[i] F2 H2 y H3 xt hd hy
        obtain ⟨F3, S3, t3, rr⟩ := nr.use L.st
        rw [List.drop_eq_getElem_cons hlt] at hcl
        unfold compL at hcl
        -- the turn
        cases hp : Tg.put tg items[i] (wipeE ρi tg.vars) with
        | none =>
          have : turnEv cx x tg c items[i] ρi = .no := by unfold turnEv; rw [hp]
          rw [this] at hcl
          cases hcl
        | some ρa =>
          have ht : turnEv cx x tg c items[i] ρi = (condEv cx c ρa).bind fun k ρ => if k then (((evE cx x ρ).bind MI.frz).bind fun d ρ => .ok (some d) ρ) else .ok none ρ := by unfold turnEv; rw [hp]
          rw [ht] at hcl
          refine ⟨F3, O2, _, items[i], ρa, S3, rr, hp, fun σa Sa oa na => ⟨same_wipe oa |>.trans ?_, F3, O2, ρa, Sa, ?_⟩⟩
          · exact same_wipe (vs := tg.vars) (σ := σ) (σ' := L2.wipe σ tg.vars) ⟨wipe_length _ _, fun j hj => wipe_out hj⟩
          · have ww : L2.wipe σa tg.vars = L2.wipe σ tg.vars := (same_wipe oa).trans (same_wipe (vs := tg.vars) (σ := σ) (σ' := L2.wipe σ tg.vars) ⟨wipe_length _ _, fun j hj => wipe_out hj⟩)
            have tA : Stp F1 H1 O1 F3 H3 O2 := L.stp.trans t3
            -- A stays as it is, apart from all
            have apart : ∀ {F' O' : Fz} {H' : Hp}, Stp F3 H3 O2 F' H' O' → ¬ F' A ∧ ¬ O' A ∧ H' A = H2 A := fun {F' O' H'} t => by
              obtain ⟨ws, e, _⟩ := L.acc
              have ne2 : H2 A ≠ none := by rw [e]; simp
              have tt := t3.trans t
              refine ⟨fun f => ?_, fun o => ?_, tt.hp A ne2 L.no⟩
              · rcases tt.fz' A f with q | q | q
                · exact L.nf q
                · exact ne2 q
                · exact L.no q
              · rcases tt.ow A o with q | q
                · exact L.no q
                · exact ne2 q
            have back : ∀ {F' O' : Fz} {H' : Hp} {ρ' : Env}, StI X.K F' H' O' σa ρ' → Stp F3 H3 O2 F' H' O' → Pin ρa ρ' → LcAt X.K F1 H1 O1 σ ρ1 tg.vars A acc ρ' F' H' O' := fun {F' O' H' ρ'} S' t' p' => by
              obtain ⟨n1, n2, e3⟩ := apart t'
              obtain ⟨ws, e, d⟩ := L.acc
              refine ⟨ww ▸ S'.wipe tg.vars, tA.trans t', L.pin.trans ⟨?_, fun j m ej pj => ?_⟩, ⟨ws, e3.trans e, Dats.ext (L.st.ext (t3.trans t')) d⟩, n1, n2⟩
              · rw [wipeE_len, p'.1, na.pin.1]
              · obtain ⟨nj, _⟩ := wipeE_some ej
                obtain ⟨m1, e1, q1⟩ := na.pin.2 j m ej pj
                obtain ⟨m2, e2, q2⟩ := p'.2 j m1 e1 q1
                exact ⟨m2, (wipeE_out nj).trans e2, q2⟩
            cases hk2 : condEv cx c ρa with
            | ex z ρb => rw [hk2] at hcl; cases hcl
            | no => rw [hk2] at hcl; cases hcl
            | ok k ρb =>
              rw [hk2] at hcl
              intro F4 H4 O4 b S4 t4 p4 hb
              subst hb
              cases b with
              | false =>
                rw [if_neg (by decide)]
                exact ⟨hlt, F4, O4, acc, ρb, back S4 t4 p4, hcl⟩
              | true =>
                rw [if_pos rfl]
                refine ⟨F4, O4, ρb, S4, ?_⟩
                cases h5 : evE cx x ρb with
                | ex z ρc => simp only [Out.bind, h5] at hcl; cases hcl
                | no => simp only [Out.bind, h5] at hcl; cases hcl
                | ok r ρc =>
                  cases h6 : MI.frz r ρc with
                  | ex z ρd => exact (frz_ex h6).elim
                  | no => simp only [Out.bind, h5, h6, if_true] at hcl; cases hcl
                  | ok d ρd =>
                    simp only [Out.bind, h5, h6, if_true] at hcl
                    split at hcl
                    · rename_i hz
                      intro F5 H5 O5 v S5 t5 p5 rv
                      obtain ⟨F6, O6, z⟩ := frz_ok S5 rv h6
                      have t6 : Stp F3 H3 O2 F6 H5 O6 := t4.trans (z.stp t5)
                      have Lx := back z.st t6 (p4.trans (p5.trans z.pin))
                      obtain ⟨ws, eA, dA⟩ := Lx.acc
                      refine ⟨ws, eA, by rw [dA.length, ← lim_eq]; exact hz, hlt, F6, O6, acc ++ [d], ρd, ⟨Lx.st.side Lx.nf Lx.no, stp_side Lx.stp hA, Lx.pin, ⟨ws ++ [v], upd_same, ?_⟩, Lx.nf, Lx.no⟩, hcl⟩
                      exact Dats.ext (fun b f => ⟨f, upd_ne fun (e : b = A) => Lx.nf (e ▸ f)⟩) (dA.append (.one z.dat))
                    · cases hcl
      · have e : i = items.length := by omega
        subst e
        refine .inl ⟨wd.stop F2 H2 xt, ?_⟩
        rw [List.drop_length] at hcl
        unfold compL at hcl
        cases hcl
        obtain ⟨ws, eA, dA⟩ := L.acc
        have hb : ∀ j, j ∈ tg.vars → Env.get (backE ρ2 ρ1 tg.vars) j = ρ1.get j := fun j hj => backE_in hj fun v hv => by
          have h1 := (hkeep v hv).1
          have h2 := L.pin.1
          rw [wipeE_len, wipeE_len] at h2
          omega
        have Sb : StI X.K F2 H2 O2 σ (backE ρ2 ρ1 tg.vars) := by
          have own_out : ∀ j m, Env.get (backE ρ2 ρ1 tg.vars) j = some m → m.isOwn = true → j ∉ tg.vars ∧ Env.get (wipeE ρ2 tg.vars) j = some m := fun j m e o => by
            have nj : j ∉ tg.vars := fun hj => by
              rw [hb j hj] at e
              rw [(hkeep j hj).2 m e] at o
              cases o
            exact ⟨nj, by rw [wipeE_out nj, ← backE_out nj]; exact e⟩
          refine ⟨?_, fun j m e => ?_, L.st.dom, L.st.odom, fun j k a m1 m2 ne e1 e2 o1 o2 q1 q2 => ?_⟩
          · have := L.st.len
            rw [wipe_length, wipeE_len] at this
            rw [backE_len]
            exact this
          · by_cases hj : j ∈ tg.vars
            · rw [hb j hj] at e
              obtain ⟨v, g1, g2⟩ := S1.var j m e
              refine ⟨v, g1, ?_⟩
              have no := (hkeep j hj).2 m e
              cases m with
              | sh d => exact Dat.ext xt g2
              | ol p xs => cases no
              | od p xs => cases no
              | ob C fs => exact g2
              | sc ns =>
                obtain ⟨a, e, h⟩ := g2
                rcases h with ⟨f, r⟩ | r
                · exact ⟨a, e, .inl ⟨(xt a f).1, Rd.ext (xt a f).2 r⟩⟩
                · exact ⟨a, e, .inr r⟩
            · rw [backE_out hj, ← wipeE_out hj] at e
              obtain ⟨v, g1, g2⟩ := L.st.var j m e
              exact ⟨v, (wipe_out hj).symm.trans g1, g2⟩
          · obtain ⟨n1, c1⟩ := own_out j m1 e1 o1
            obtain ⟨n2, c2⟩ := own_out k m2 e2 o2
            exact L.st.sep j k a m1 m2 ne c1 c2 o1 o2 ((wipe_out n1).trans q1) ((wipe_out n2).trans q2)
        refine w1 F2 H2 O2 _ Sb (t1.trans L.stp) (p1.trans ⟨?_, fun j m e p => ?_⟩) ⟨A, ws, rfl, L.nf, L.no, t1.none hA, eA, dA⟩
        · have h2 := L.pin.1
          rw [wipeE_len, wipeE_len] at h2
          rw [backE_len]
          exact h2
        · have nj : j ∉ tg.vars := fun hj => by
            have := (hkeep j hj).2 m e
            cases m <;> first | (cases p; done) | (cases this; done)
          obtain ⟨m', e', p'⟩ := L.pin.2 j m ((wipeE_out nj).trans e) p
          exact ⟨m', by rw [backE_out nj, ← wipeE_out nj]; exact e', p'⟩
    · exact w1.elim
  · exact w1.elim
theorem pd_comp {elt tge iter : Expr} {ifs : List Expr} {scope : Scope} {own : List (Str × Nat)} {pos : Pos} {x : Ex} {tg : Tg} {it : It} {c : Option Ex} (hc : X.calm = true) (hN : X.N.Nodup) (hi : PDi X xr W tge iter (evI cx it)) (ok : BlkOk X.N X.env.scope scope own) (hv : own.map (·.2) = tg.vars)
    (hg : ∀ (s : Shared) (H : Hp) (C : Addr) (cl : List (Str × Addr)) (fp : List Addr), PG (X.blk s H scope (compEnvC scope cl C X.env) fp) tge (canG X.K tg))
    (ht : ∀ (s : Shared) (H : Hp) (C : Addr) (cl : List (Str × Addr)) (fp : List Addr), PDc (X.blk s H scope (compEnvC scope cl C X.env) fp) xr W0 ifs (condEv cx c))
    (he : ∀ (s : Shared) (H : Hp) (C : Addr) (cl : List (Str × Addr)) (fp : List Addr), PD (X.blk s H scope (compEnvC scope cl C X.env) fp) xr W0 elt (evE cx x))
    (hs : ∀ x, foldedSetIterable iter X.env x = pure x) : PD X xr W (.ListComp elt [⟨tge, iter, ifs, 0⟩] scope pos) (evE cx (.comp x tg it c)) := by
  obtain ⟨wi, pi, ki⟩ := hi.run
  exact ⟨_, pe_lc (tt := canT X.K xr W0 (condEv cx c)) (te := canE X.K xr W0 (evE cx x)) hc hN pi ok hg (fun s H C cl fp => (ht s H C cl fp).run) (fun s H C cl fp => (he s H C cl fp).can) hs, comp_run ki hv⟩
end
end MI
namespace MI
open PySem PySem.Spec PyProof.Rows L2
variable {K : PySem.W.Frag} {F F' : Fz} {H H' : Hp} {O O' : Fz} {σ σ' : L2.St} {ρ ρ' : Env}
/-! ### what is wanted behind a statement -/
def WantS (K : PySem.W.Frag) (xr : XRep) (W : WX) (F : Fz) (H : Hp) (O : Fz) (σ : L2.St) (ρ : Env) (o : Out Fl) (D : Ends) : Prop := match o with
  | .ok .next ρ' => ∀ F' H' O' σ', StI K F' H' O' σ' ρ' → Stp F H O F' H' O' → PinS σ ρ σ' ρ' → D.nx σ' H'
  | .ok .brk ρ' => ∀ F' H' O' σ', StI K F' H' O' σ' ρ' → Stp F H O F' H' O' → PinS σ ρ σ' ρ' → D.bk σ' H'
  | .ok .cont ρ' => ∀ F' H' O' σ', StI K F' H' O' σ' ρ' → Stp F H O F' H' O' → PinS σ ρ σ' ρ' → D.ct σ' H'
  | .ok (.ret m) ρ' => ∀ F' H' O' σ' v r, StI K F' H' O' σ' ρ' → Stp F H O F' H' O' → PinS σ ρ σ' ρ' → RepR K H F' H' O' σ' v r → retM r ρ' = some m → D.rt v H'
  | .ex x ρ' => ∀ F' H' O' σ' cls d, StI K F' H' O' σ' ρ' → Stp F H O F' H' O' → PinS σ ρ σ' ρ' → xr F' H' cls d x → W cls d σ' H'
  | .no => False
variable {xr : XRep} {W : WX}
theorem WantS.after {o : Out Fl} {D : Ends} (h : WantS K xr W F H O σ ρ o D) (t : Stp F H O F' H' O') (p : PinS σ ρ σ' ρ') : WantS K xr W F' H' O' σ' ρ' o D := by
  cases o with
  | ok a ρ2 =>
    cases a with
    | next => exact fun F2 H2 O2 σ2 S2 t2 p2 => h F2 H2 O2 σ2 S2 (t.trans t2) (p.trans p2)
    | brk => exact fun F2 H2 O2 σ2 S2 t2 p2 => h F2 H2 O2 σ2 S2 (t.trans t2) (p.trans p2)
    | cont => exact fun F2 H2 O2 σ2 S2 t2 p2 => h F2 H2 O2 σ2 S2 (t.trans t2) (p.trans p2)
    | ret m => exact fun F2 H2 O2 σ2 v r S2 t2 p2 rr e => h F2 H2 O2 σ2 v r S2 (t.trans t2) (p.trans p2) (rr.from fun a e => t.none e) e
  | ex x ρ2 => exact fun F2 H2 O2 σ2 c d S2 t2 p2 r => h F2 H2 O2 σ2 c d S2 (t.trans t2) (p.trans p2) r
  | no => exact h
/-- an expression first -/
theorem WantS.seq {α β : Type} {rep : Fz → Hp → Fz → β → α → Prop} {o : Out α} {k : α → Env → Out Fl} {D : Ends} {Q : β → Hp → Prop} {F0 O0 : Fz} {H0 : Hp} {σ0 : L2.St} {ρ0 : Env}
    (t0 : Stp F0 H0 O0 F H O) (p0 : PinS σ0 ρ0 σ ρ) (h : WantS K xr W F0 H0 O0 σ0 ρ0 (o.bind k) D)
    (f : ∀ a ρ1 F1 H1 O1 b, StI K F1 H1 O1 σ ρ1 → Stp F H O F1 H1 O1 → Stp F0 H0 O0 F1 H1 O1 → PinS σ0 ρ0 σ ρ1 → rep F1 H1 O1 b a → WantS K xr W F0 H0 O0 σ0 ρ0 (k a ρ1) D → Q b H1) : WantG K xr W rep σ F H O ρ o Q := by
  cases o with
  | ok a ρ1 => exact fun F1 H1 O1 b S t p r => f a ρ1 F1 H1 O1 b S t (t0.trans t) (p0.then p) r h
  | ex x ρ1 => exact fun F1 H1 O1 c d S t p r => h F1 H1 O1 σ c d S (t0.trans t) (p0.then p) r
  | no => exact h
theorem WantS.lift {α : Type} {o : Option α} {k : α → Env → Out Fl} {ρ1 : Env} {D : Ends} (h : WantS K xr W F H O σ ρ ((Out.lift o ρ1).bind k) D) : ∃ a, o = some a ∧ WantS K xr W F H O σ ρ (k a ρ1) D := by
  cases o with
  | none => exact h.elim
  | some a => exact ⟨a, rfl, h⟩
structure PDst (X : Cx) (xr : XRep) (W : WX) (st : Stmt) (ev : Env → Out Fl) : Prop where
  run : ∃ t : TS, PS X st t ∧ ∀ F H O σ ρ D, StI X.K F H O σ ρ → WantS X.K xr W F H O σ ρ (ev ρ) D → t D σ H
structure PDss (X : Cx) (xr : XRep) (W : WX) (sts : List Stmt) (ev : Env → Out Fl) : Prop where
  run : ∃ t : TS, PSs X sts t ∧ ∀ F H O σ ρ D, StI X.K F H O σ ρ → WantS X.K xr W F H O σ ρ (ev ρ) D → t D σ H
section
variable {X : Cx} {cx : Cxt}
theorem pdss_nil : PDss X xr W [] (evSs cx []) := ⟨_, pss_nil, fun F H O σ ρ D S w => by simp only [evSs] at w; exact w F H O σ S .refl (.refl _ _)⟩
theorem pdss_cons {st : Stmt} {sts : List Stmt} {s : Sx} {ss : List Sx} (h1 : PDst X xr W st (evS cx s)) (h2 : PDss X xr W sts (evSs cx ss)) : PDss X xr W (st :: sts) (evSs cx (s :: ss)) := by
  obtain ⟨t1, p1, k1⟩ := h1.run
  obtain ⟨t2, p2, k2⟩ := h2.run
  refine ⟨_, pss_cons p1 p2, fun F H O σ ρ D S w => ?_⟩
  simp only [evSs] at w
  refine k1 F H O σ ρ _ S ?_
  cases e : evS cx s ρ with
  | ok a ρ1 =>
    rw [e] at w
    cases a with
    | next => exact fun F1 H1 O1 σ1 S1 t p => k2 F1 H1 O1 σ1 ρ1 D S1 (WantS.after (show WantS X.K xr W F H O σ ρ (evSs cx ss ρ1) D from w) t p)
    | brk => exact w
    | cont => exact w
    | ret m => exact w
  | ex x ρ1 => rw [e] at w; exact w
  | no => rw [e] at w; exact w
theorem pds_pass {pos : Pos} : PDst X xr W (.Pass pos) (evS cx .pass) := ⟨_, ps_pass, fun F H O σ ρ D S w => by simp only [evS] at w; exact w F H O σ S .refl (.refl _ _)⟩
theorem pds_brk {pos : Pos} : PDst X xr W (.Break pos) (evS cx .brk) := ⟨_, ps_break, fun F H O σ ρ D S w => by simp only [evS] at w; exact w F H O σ S .refl (.refl _ _)⟩
theorem pds_cont {pos : Pos} : PDst X xr W (.Continue pos) (evS cx .cont) := ⟨_, ps_continue, fun F H O σ ρ D S w => by simp only [evS] at w; exact w F H O σ S .refl (.refl _ _)⟩
theorem pds_retN {pos : Pos} : PDst X xr W (.Return none pos) (evS cx .retN) := ⟨_, ps_retN, fun F H O σ ρ D S w => by
  simp only [evS] at w
  exact w F H O σ .non (.val .none) S .refl (.refl _ _) .non rfl⟩
theorem pds_ret {e : Expr} {x : Ex} {pos : Pos} (h : PD X xr W e (evE cx x)) : PDst X xr W (.Return (some e) pos) (evS cx (.ret x)) := by
  obtain ⟨t, p, k⟩ := h.run
  refine ⟨_, ps_ret p, fun F H O σ ρ D S w => ?_⟩
  simp only [evS] at w
  refine k F H O σ ρ _ S (WantS.seq .refl (.refl _ _) w fun r ρ1 F1 H1 O1 v S1 _ t1 p1 r1 w => ?_)
  cases e : retM r ρ1 with
  | none => rw [e] at w; exact w.elim
  | some m =>
    rw [e] at w
    exact w F1 H1 O1 σ v r S1 t1 p1 r1 e
theorem pds_expr {e : Expr} {x : Ex} {pos : Pos} (hs : swapsWith e none pos.line X.env = pure false) (h : PD X xr W e (evE cx x)) : PDst X xr W (.Expr e pos) (evS cx (.expr x)) := by
  obtain ⟨t, p, k⟩ := h.run
  refine ⟨_, ps_expr p hs, fun F H O σ ρ D S w => ?_⟩
  simp only [evS] at w
  exact k F H O σ ρ _ S (WantS.seq .refl (.refl _ _) w fun r ρ1 F1 H1 O1 v S1 _ t1 p1 r1 w => w F1 H1 O1 σ S1 t1 p1)
theorem pds_doc {z : Str} {j : Nat} {p1 p2 : Pos} : PDst X xr W (.Expr (.Constant (.str z) j p1) p2) (evS cx .pass) := ⟨_, ps_doc, fun F H O σ ρ D S w => by simp only [evS] at w; exact w F H O σ S .refl (.refl _ _)⟩
theorem pds_if {c : Expr} {a b : List Stmt} {z : Ex} {x y : List Sx} {pos : Pos} (hc : PDt X xr W c (evT cx z)) (ha : PDss X xr W a (evSs cx x)) (hb : PDss X xr W b (evSs cx y)) : PDst X xr W (.If c a b pos) (evS cx (.ite z x y)) := by
  obtain ⟨tc, pc, kc⟩ := hc.run
  obtain ⟨ta, pa, ka⟩ := ha.run
  obtain ⟨tb, pb, kb⟩ := hb.run
  refine ⟨_, ps_if pc pa pb, fun F H O σ ρ D S w => ?_⟩
  simp only [evS] at w
  refine kc F H O σ ρ _ S (WantS.seq .refl (.refl _ _) w fun k ρ1 F1 H1 O1 b S1 _ t1 p1 r1 w => ?_)
  subst r1
  cases b with
  | true => exact ite_tt (ka F1 H1 O1 σ ρ1 D S1 (WantS.after (by simpa using w) t1 p1))
  | false => exact ite_ff (kb F1 H1 O1 σ ρ1 D S1 (WantS.after (by simpa using w) t1 p1))
/-! ### name = e -/
/-- a name gets a value -/
theorem RepR.store {H0 : Hp} {i : Nat} {v : V} {r : R} {ρ' : Env} (S : StI K F H O σ ρ) (h : RepR K H0 F H O σ v r) (e : putR i r ρ = .ok () ρ') :
    ∃ F' O', StI K F' H O' (σ.set i (some v)) ρ' ∧ PinS σ ρ (σ.set i (some v)) ρ' ∧ (∀ a, F a → F' a) ∧ (∀ a, F' a → F a ∨ H0 a = none ∨ O a) ∧ (∀ a, O' a → O a ∨ H0 a = none) := by
  have sh : ∀ {d : D} {ρ1 : Env} {F1 O1 : Fz}, StI K F1 H O1 σ ρ1 → Dat K F1 H v d → (if free ρ1 i then Out.ok () (ρ1.set i (some (.sh d))) else .no) = .ok () ρ' → StI K F1 H O1 (σ.set i (some v)) ρ' ∧ PinS σ ρ1 (σ.set i (some v)) ρ' := by
    intro d ρ1 F1 O1 S1 hd e
    split at e
    · rename_i hf
      cases e
      exact ⟨S1.store hf (show RepM K F1 H O1 v (.sh d) from hd) fun z => (by cases z), pins_set hf⟩
    · cases e
  cases r with
  | val d =>
    obtain ⟨h1, h2⟩ := sh S h (show (if free ρ i then Out.ok () (ρ.set i (some (.sh d))) else .no) = .ok () ρ' from e)
    exact ⟨F, O, h1, h2, fun _ h => h, fun _ h => .inl h, fun _ h => .inl h⟩
  | new xs =>
    simp only [putR] at e
    split at e
    · rename_i hf
      cases e
      obtain ⟨a, vs, rfl, nf, no, h0, ha, hd⟩ := h
      have x : ∀ b, (O b ∨ b = a) → H b ≠ none ∧ ¬ F b := fun b hb => by
        rcases hb with hb | rfl
        · exact S.odom b hb
        · exact ⟨by rw [ha]; simp, nf⟩
      have S1 : StI K F H (fun b => O b ∨ b = a) σ ρ := by
        refine ⟨S.len, fun j m ej => ?_, S.dom, x, S.sep⟩
        obtain ⟨u, g1, g2⟩ := S.var j m ej
        exact ⟨u, g1, g2.mono (fun _ h => h) fun b _ _ ob => .inl ob⟩
      refine ⟨F, _, S1.store hf (show RepM K F H (fun b => O b ∨ b = a) (.ref a) (.ol false xs) from ⟨a, vs, rfl, .inr rfl, ha, hd⟩) fun _ j m' nj ej oj ej2 => ?_, pins_set hf, fun _ h => h, fun _ h => .inl h, fun b hb => ?_⟩
      · obtain ⟨u, g1, g2⟩ := S.var j m' ej
        rw [ej2] at g1
        cases g1
        obtain ⟨b, eb, ob⟩ := g2.own oj
        cases eb
        exact no ob
      · rcases hb with hb | rfl
        · exact .inl hb
        · exact .inr h0
    · cases e
  | newd xs =>
    simp only [putR] at e
    split at e
    · rename_i hf
      cases e
      obtain ⟨a, vs, rfl, nf, no, h0, ha, hd, hd2⟩ := h
      have x : ∀ b, (O b ∨ b = a) → H b ≠ none ∧ ¬ F b := fun b hb => by
        rcases hb with hb | rfl
        · exact S.odom b hb
        · exact ⟨by rw [ha]; simp, nf⟩
      have S1 : StI K F H (fun b => O b ∨ b = a) σ ρ := by
        refine ⟨S.len, fun j m ej => ?_, S.dom, x, S.sep⟩
        obtain ⟨u, g1, g2⟩ := S.var j m ej
        exact ⟨u, g1, g2.mono (fun _ h => h) fun b _ _ ob => .inl ob⟩
      refine ⟨F, _, S1.store hf (show RepM K F H (fun b => O b ∨ b = a) (.ref a) (.od false xs) from ⟨a, vs, rfl, .inr rfl, ha, hd, hd2⟩) fun _ j m' nj ej oj ej2 => ?_, pins_set hf, fun _ h => h, fun _ h => .inl h, fun b hb => ?_⟩
      · obtain ⟨u, g1, g2⟩ := S.var j m' ej
        rw [ej2] at g1
        cases g1
        obtain ⟨b, eb, ob⟩ := g2.own oj
        cases eb
        exact no ob
      · rcases hb with hb | rfl
        · exact .inl hb
        · exact .inr h0
    · cases e
  | own j =>
    simp only [putR] at e
    obtain ⟨d, ρ1, e1, e2⟩ := out_bind e
    obtain ⟨F1, O1, z⟩ := frz_ok S h e1
    obtain ⟨h1, h2⟩ := sh z.st z.dat e2
    exact ⟨F1, O1, h1, (PinS.of z.pin).trans h2, z.fz, z.fz', fun a h => .inl (z.ow a h)⟩
  | ob C fs => exact h.elim
  | sc ns => simp only [putR, MI.frz, Out.bind] at e; cases e
theorem putR_ex {i : Nat} {r : R} {z : Xn} (e : putR i r ρ = .ex z ρ') : False := by
  cases r with
  | new xs => simp only [putR] at e; split at e <;> cases e
  | newd xs => simp only [putR] at e; split at e <;> cases e
  | ob C fs => simp only [putR] at e; split at e <;> cases e
  | val d => simp only [putR, MI.frz, Out.bind] at e; split at e <;> cases e
  | own j =>
    simp only [putR] at e
    cases q : MI.frz (.own j) ρ with
    | ok d ρ1 => rw [q] at e; simp only [Out.bind] at e; split at e <;> cases e
    | ex y ρ1 => exact frz_ex q
    | no => rw [q] at e; cases e
  | sc ns => simp only [putR, MI.frz, Out.bind] at e; cases e
theorem asg_run {i : Nat} {te : TE} {x : Ex} (k : RunE X xr W te (evE cx x)) : ∀ F H O σ ρ D, StI X.K F H O σ ρ → WantS X.K xr W F H O σ ρ (evS cx (.asg i x) ρ) D → tAsg te (gName i) D σ H := by
  intro F H O σ ρ D S w
  simp only [evS] at w
  rw [bindA] at w
  refine k F H O σ ρ _ S (WantS.seq .refl (.refl _ _) w fun r ρ1 F1 H1 O1 v S1 _ t1 p1 r1 w => ?_)
  cases e : putR i r ρ1 with
  | no => rw [e] at w; exact w.elim
  | ex z ρ2 =>
    exact (putR_ex e).elim
  | ok u ρ2 =>
    rw [e] at w
    obtain ⟨F2, O2, S2, p2, f1, f2, f3⟩ := RepR.store S1 r1 e
    refine w F2 H1 O2 _ S2 ⟨fun a h => f1 a (t1.fz a h), fun a h => ?_, fun a h => ?_, t1.hp, t1.all⟩ (p1.trans p2)
    · rcases f2 a h with q | q | q
      · exact t1.fz' a q
      · exact .inr (.inl q)
      · rcases t1.ow a q with q | q
        · exact .inr (.inr q)
        · exact .inr (.inl q)
    · rcases f3 a h with q | q
      · exact t1.ow a q
      · exact .inr q
theorem pds_asg {i : Nat} {y : Str} {e : Expr} {x : Ex} {p pos : Pos} (hN : X.N.Nodup) (hi : X.N[i]? = some y) (hx : Loc X.env.scope y) (hf : X.fn y = true ∨ X.env.scope.names.lookup y = some .local) (hs : swapsWith e (some (.Name y p)) pos.line X.env = pure false) (h : PD X xr W e (evE cx x)) :
    PDst X xr W (.Assign [.Name y p] e pos) (evS cx (.asg i x)) := by
  obtain ⟨t, pt, k⟩ := h.run
  exact ⟨_, ps_set hN hi hx pt hs hf, asg_run k⟩
theorem pds_asgC {i : Nat} {y : Str} {p spos : Pos} {elt tge iter : Expr} {ifs : List Expr} {scope : Scope} {own : List (Str × Nat)} {pos : Pos} {x : Ex} {tg : Tg} {it : It} {c : Option Ex} (hc : X.calm = true) (hN : X.N.Nodup) (hy : X.N[i]? = some y) (hyl : X.env.scope.names.lookup y = some .local)
    (hsw : swapsWith (.ListComp elt [⟨tge, iter, ifs, 0⟩] scope pos) (some (.Name y p)) spos.line X.env = pure true) (hi : PDi X xr W tge iter (evI cx it)) (ok : BlkOk X.N X.env.scope scope own) (hv : own.map (·.2) = tg.vars)
    (hg : ∀ (s : Shared) (H : Hp) (C : Addr) (cl : List (Str × Addr)) (fp : List Addr), PG (X.blk s H scope (compEnvC scope cl C X.env) fp) tge (canG X.K tg))
    (ht : ∀ (s : Shared) (H : Hp) (C : Addr) (cl : List (Str × Addr)) (fp : List Addr), PDc (X.blk s H scope (compEnvC scope cl C X.env) fp) xr W0 ifs (condEv cx c))
    (he : ∀ (s : Shared) (H : Hp) (C : Addr) (cl : List (Str × Addr)) (fp : List Addr), PD (X.blk s H scope (compEnvC scope cl C X.env) fp) xr W0 elt (evE cx x))
    (hs : ∀ x, foldedSetIterable iter X.env x = pure x) : PDst X xr W (.Assign [.Name y p] (.ListComp elt [⟨tge, iter, ifs, 0⟩] scope pos) spos) (evS cx (.asg i (.comp x tg it c))) := by
  obtain ⟨wi, pi, ki⟩ := hi.run
  exact ⟨_, ps_setLc (tt := canT X.K xr W0 (condEv cx c)) (te := canE X.K xr W0 (evE cx x)) hc hN hy hyl hsw pi ok hg (fun s H C cl fp => (ht s H C cl fp).run) (fun s H C cl fp => (he s H C cl fp).can) hs, asg_run (comp_run ki hv)⟩
/-! ### a, b = e -/
theorem pds_unp {is : List Nat} {tge e : Expr} {x : Ex} {pos : Pos} (hs : swapsWithSole [tge] e pos.line X.env = pure false) (hw : swappedStores [tge] e X.env = pure none) (hn : noStar tge = true) (hg : PG X tge (canG X.K (.tup (is.map .name)))) (h : PD X xr W e (evE cx x)) :
    PDst X xr W (.Assign [tge] e pos) (evS cx (.unp is x)) := by
  obtain ⟨t, pt, k⟩ := h.frz.run
  refine ⟨_, ps_asg pt hg hs hw (by rw [assign_one hn]; rfl), fun F H O σ ρ D S w => ?_⟩
  simp only [evS] at w
  rw [bindA] at w
  refine k F H O σ ρ _ S (WantS.seq .refl (.refl _ _) (show WantS X.K xr W F H O σ ρ ((evE cx x ρ).bind MI.frz |>.bind fun d ρ => (Out.lift (Tg.put (.tup (is.map .name)) d ρ) ρ).bind fun ρ' _ => .ok .next ρ') D by rw [bindA]; exact w) fun d ρ1 F1 H1 O1 v S1 _ t1 p1 r1 w => ?_)
  obtain ⟨ρ2, e2, w⟩ := w.lift
  exact ⟨F1, O1, ρ1, d, ρ2, S1, r1, e2, fun σ2 S2 o2 n2 => w F1 H1 O1 σ2 S2 t1 (p1.trans n2)⟩
end
end MI
namespace MI
open PySem PySem.Spec PyProof.Rows L2
variable {K : PySem.W.Frag} {F F' : Fz} {H H' : Hp} {O O' : Fz} {σ σ' : L2.St} {ρ ρ' : Env} {xr : XRep} {W : WX}
theorem ixOf_eq (n : Nat) (i : Int) : ixOf n i = ixN n i := rfl
theorem intAt_some {o : Option D} {k : Int} (h : intAt o = some k) : o = some (.int k) := by
  unfold intAt at h
  split at h
  · cases h; rfl
  · cases h
section
variable {X : Cx} {cx : Cxt}
def noSlice : Expr → Bool
  | .Slice _ _ _ _ => false
  | _ => true
theorem plain_ix {b : Expr} (h : noSlice b = true) : PlainIx b := by
  intro o i
  cases b <;> first | rfl | cases h
theorem assign_sub {o i : Expr} {pos : Pos} (h : noSlice i = true) (env : PySem.Env) (v : Value) : assign (.Subscript o i pos) env v = (do
    let ov ← holding [v] (eval o env)
    let iv ← holding [v, ov] (eval i env)
    standAt pos
    holding [v, ov, iv] (setItem ov iv v)
    release [v, ov, iv] []) := by
  cases i <;> first | rfl | cases h
/-! ### xs[i] = e -/
theorem pds_setI {i : Nat} {y : Str} {e ixe : Expr} {x z : Ex} {p p2 pos : Pos} (hN : X.N[i]? = some y) (hv : Vis X.env.scope y) (hd : (y == ("__debug__" : Str)) = false) (hcd : (y == ("__classdict__" : Str)) = false)
    (hn : noSlice ixe = true) (hs : swapsWithSole [.Subscript (.Name y p) ixe p2] e pos.line X.env = pure false) (hw : swappedStores [.Subscript (.Name y p) ixe p2] e X.env = pure none) (h : PD X xr W e (evE cx x)) (hi : PD X xr W ixe (evE cx z)) :
    PDst X xr W (.Assign [.Subscript (.Name y p) ixe p2] e pos) (evS cx (.setI i z x)) := by
  obtain ⟨te, pe, ke⟩ := h.frz.run
  obtain ⟨ti, pi, ki⟩ := hi.run
  refine ⟨_, ps_asg pe (pg_sub (pe_var hN hv hd hcd) pi set_list (assign_sub hn X.env)) hs hw rfl, fun F H O σ ρ D S w => ?_⟩
  simp only [evS] at w
  refine ke F H O σ ρ _ S (WantS.seq .refl (.refl _ _) w fun d ρ1 F1 H1 O1 v S1 _ t1 p1 r1 w1 => ?_)
  split at w1
  · rename_i q qs eq
    obtain ⟨a, vs, ha, oa, hl, dl⟩ := S1.ol eq
    refine ⟨.ref a, ha, ?_⟩
    refine ki F1 H1 O1 σ ρ1 _ S1 (WantS.seq t1 p1 w1 fun r ρ2 F2 H2 O2 u S2 t12 t2 p2 r2 w2 => ?_)
    split at w2
    · rename_i b xs k eb ek
      obtain ⟨c, ws, hc, oc, hw', dw⟩ := S2.ol eb
      have : c = a := by rw [ha] at hc; cases hc; rfl
      subst this
      split at w2
      · rename_i j hj
        have hu := (cont_ok S2 r2 (intAt_some ek)).int
        subst hu
        refine ⟨c, ws, k, j, rfl, rfl, hw', by rw [dw.length]; exact hj, ?_⟩
        have hd2 : Dats X.K F2 H2 (ws.set j v) (xs.set j d) := dw.set j (Dat.ext (S1.ext t12) r1)
        exact w2 F2 _ O2 σ (S2.chgL eb hc oc hd2) (t2.trans (stp_own oc)) (p2.then (pin_chg eb))
      · exact w2.elim
    · exact w2.elim
  · exact w1.elim
/-! ### for -/
theorem pds_for {tge ie : Expr} {body : List Stmt} {tg : Tg} {it : It} {b : List Sx} {pos : Pos} (hp : PassesOwn (model X.prog X.w) X.A X.env X.xe) (hc : X.calm = true) (hi : PDi X xr W tge ie (evI cx it)) (hg : PG X tge (canG X.K tg)) (hb : PDss X xr W body (evSs cx b))
    (hs : ∀ x, foldedSetIterable ie X.env x = pure x) : PDst X xr W (.For tge ie body [] pos) (evS cx (.for tg it b)) := by
  obtain ⟨wi, pi, ki⟩ := hi.run
  obtain ⟨tb, pb, kb⟩ := hb.run
  refine ⟨_, ps_for hp hc pi hg pb hs, fun F H O σ ρ D S w => ?_⟩
  simp only [evS] at w
  refine ki F H O σ ρ _ S (WantS.seq .refl (.refl _ _) w fun items ρ1 F1 H1 O1 J S1 _ t1 p1 wd w1 => ?_)
  generalize hf : (fun (d : MI.D) (ρ : Env) => match Tg.put tg d ρ with
    | none => Out.no
    | some ρ => evSs cx b ρ) = f at w1
  refine ⟨fun i m σ' H' => m = items.length - i ∧ i ≤ items.length ∧ ∃ F' O' ρi, StI X.K F' H' O' σ' ρi ∧ Stp F1 H1 O1 F' H' O' ∧ WantS X.K xr W F' H' O' σ' ρi (forL f (items.drop i) ρi) D,
    ⟨items.length, by simp, Nat.zero_le _, F1, O1, ρ1, S1, .refl, by simpa using WantS.after w1 t1 p1⟩, ?_⟩
  rintro i m σ2 H2 ⟨rfl, hi, F2, O2, ρi, S2, t2, w2⟩
  have xt : Ext F1 H1 F2 H2 := S1.ext t2
  by_cases hlt : i < items.length
  · refine .inr ⟨wd.go i F2 H2 xt hlt, fun σ' H' => i + 1 ≤ items.length ∧ ∃ F' O' ρi, StI X.K F' H' O' σ' ρi ∧ Stp F1 H1 O1 F' H' O' ∧ WantS X.K xr W F' H' O' σ' ρi (forL f (items.drop (i + 1)) ρi) D, fun σ' H' ⟨h1, h2⟩ => ⟨items.length - (i + 1), by omega, rfl, h1, h2⟩, fun y H3 hy => ?_⟩
    have nr := wd.yld i items[i] F2 H2 y H3 xt (by simp [hlt]) hy
    obtain ⟨F3, S3, t3, rr⟩ := nr.use S2
    rw [List.drop_eq_getElem_cons hlt] at w2
    unfold forL at w2
    subst hf
    dsimp only at w2
    cases hput : Tg.put tg items[i] ρi with
    | none => rw [hput] at w2; exact w2.elim
    | some ρa =>
      rw [hput] at w2
      refine ⟨F3, O2, ρi, items[i], ρa, S3, rr, hput, fun σa Sa oa na => kb F3 H3 O2 σa ρa _ Sa ?_⟩
      dsimp only at w2
      cases e : evSs cx b ρa with
      | no => rw [e] at w2; exact w2.elim
      | ex z ρ5 =>
        rw [e] at w2
        exact fun F5 H5 O5 σ5 c d S5 t5 p5 r5 => w2 F5 H5 O5 σ5 c d S5 (t3.trans t5) (na.trans p5) r5
      | ok fl ρ5 =>
        rw [e] at w2
        cases fl with
        | next => exact fun F5 H5 O5 σ5 S5 t5 p5 => ⟨hlt, F5, O5, ρ5, S5, t2.trans (t3.trans t5), WantS.after w2 (t3.trans t5) (na.trans p5)⟩
        | cont => exact fun F5 H5 O5 σ5 S5 t5 p5 => ⟨hlt, F5, O5, ρ5, S5, t2.trans (t3.trans t5), WantS.after w2 (t3.trans t5) (na.trans p5)⟩
        | brk => exact fun F5 H5 O5 σ5 S5 t5 p5 => w2 F5 H5 O5 σ5 S5 (t3.trans t5) (na.trans p5)
        | ret m => exact fun F5 H5 O5 σ5 v r S5 t5 p5 r5 e5 => w2 F5 H5 O5 σ5 v r S5 (t3.trans t5) (na.trans p5) (r5.from fun a e => t3.none e) e5
  · have e : i = items.length := by omega
    subst e
    rw [List.drop_length] at w2
    refine .inl ⟨wd.stop F2 H2 xt, w2 F2 H2 O2 σ2 S2 .refl (.refl _ _)⟩
end
end MI
namespace MI
open PySem PySem.Spec PyProof.Rows L2
variable {K : PySem.W.Frag} {F F' : Fz} {H H' : Hp} {O O' : Fz} {σ σ' : L2.St} {ρ ρ' : Env} {xr : XRep} {W : WX}
/-! ### a def, called with no guard around -/
structure FnG (P : Program) (w : World) (K : PySem.W.Frag) (mg : Str → Option Value) (base : Heap) (k : Nat) (f : Addr) (fd : FuncData) (ps : List Str) (sp : Sp) : Prop where
  len : ∀ vs H Q E, sp vs H Q E → vs.length = ps.length
  run : ∀ (A : Around) (outer : List PySem.Env) (s : Shared) (H : Hp) (args : Args) (us : List Value) (vs : List V) (Q : VK) (E : XK), A.guards = some [] → Room k A → Env0 P w K mg base A outer s H → BindsTo s fd args (ps.zip us) → Vals vs us → sp vs H Q E →
    codeAny (model P w) A (.call (.ref f) args) (CR (L2.CX P w) outer P w H s Q E) s
theorem FnG.mono {P : Program} {w : World} {K : PySem.W.Frag} {mg : Str → Option Value} {base : Heap} {j k : Nat} {f : Addr} {fd : FuncData} {ps : List Str} {sp : Sp} (g : FnG P w K mg base j f fd ps sp) (h : j ≤ k) : FnG P w K mg base k f fd ps sp :=
  ⟨g.len, fun A outer s H args us vs Q E hg hr => g.run A outer s H args us vs Q E hg (hr.mono h)⟩
section
variable {X : Cx} {k n : Nat} {f : Addr} {fd : FuncData} {ps ks : List Str} {sp : Sp} {x : Str} {p pos : Pos} {es : List Expr} {kws : List Keyword} {t tk : TA} {g : List Value → List Value → List Value} {gV : List V → List V → List V}
def tCallM (n m : Nat) (sp : Sp) (gV : List V → List V → List V) (W : WX) (t tk : TA) : TE := fun σ H Q => t σ H fun vs H1 => tk σ H1 fun zs H2 => vs.length = n ∧ zs.length = m ∧ sp (gV vs zs) H2 Q (WE W σ)
theorem run_G {pins : List (Addr × Obj)} {s : Shared} {Q : VK} {us ws : List Value} {vs zs : List V} (hG : FnG X.prog X.w X.K X.mg X.base k f fd ps sp) (ga : X.A.guards = some []) (hr : Room k X.A) (hb : KBn X.K fd ps n ks g gV) (tk : Takes X W)
    (I : Inv X pins σ H s) (r : Vals vs us) (rz : Vals zs ws) (l1 : vs.length = n) (l2 : zs.length = ks.length) (h : sp (gV vs zs) H Q (WE W σ)) : wpAny (model X.prog X.w) X.A (call (.ref f) us (ks.zip ws)) (EP X pins σ Q) X.xe s := by
  have bt := hb.to s us ws I.kIn (r.length.symm.trans l1) (rz.length.symm.trans l2)
  refine wpAny_call (codeAny_mono (hG.run _ _ s H ⟨us, ks.zip ws⟩ _ _ Q (WE W σ) ga hr I.env0 bt (hb.rel r rz) h) fun res s' hq => ?_)
  match res, hq with
  | .error e, hq => exact passAt tk σ pins H s e s' I hq
  | .ok (.ret u), hq => exact I.after hq
theorem pe_callM {e : Expr} (hG : FnG X.prog X.w X.K X.mg X.base k f fd ps sp) (ga : X.A.guards = some []) (hr : Room k X.A) (hg : Gl X x) (hm : X.mg x = some (.ref f)) (hk : PySem.W.keepIn X.K (.ref f) = true) (hb : KBn X.K fd ps n ks g gV) (tx : Takes X W)
    (ha : PA X (e :: es) t) (hkw : PK X kws tk) (hst : (e :: es).all noStar = true) (hall : (backToKw pos (keywordEach kws X.env)).all (·.1.isSome) = true) (hks : (backToKw pos (keywordEach kws X.env)).filterMap (·.1) = ks) (hnn : (backToKw pos (keywordEach kws X.env)).any (·.1.isNone) = false)
    (hdb : (x == ("__debug__" : Str)) = false) : PE X (.Call (.Name x p) (e :: es) kws pos) (tCallM n ks.length sp gV W t tk) := by
  constructor
  intro pins s σ H Q I h
  apply wpAny_Call_Name_kw
  refine ld_glob I hg hm ?_ hdb
  have hst' : noStar e = true ∧ es.all noStar = true := by simpa using hst
  refine PySem.W.callWith_KW (h₀ := X.base) I.ok.mod.kin hk hall (thn (ha.run pos pins s σ H _ I h) fun us s1 ⟨vs, H1, I1, r, q⟩ => ?_) (by rw [hnn, star_no hst]; rfl) (star_one hst'.1 _ _)
  refine thn (hkw.run pos pins s1 σ H1 _ I1 q) fun ws s2 ⟨zs, H2, I2, rz, l1, l2, q2⟩ => ⟨I2.kIn, ?_⟩
  rw [hks]
  exact run_G hG ga hr hb tx I2 r rz l1 l2 q2
theorem pe_callM0 (hG : FnG X.prog X.w X.K X.mg X.base k f fd ps sp) (ga : X.A.guards = some []) (hr : Room k X.A) (hg : Gl X x) (hm : X.mg x = some (.ref f)) (hk : PySem.W.keepIn X.K (.ref f) = true) (hb : KBn X.K fd ps n ks g gV) (tx : Takes X W)
    (hkw : PK X kws tk) (hall : (backToKw pos (keywordEach kws X.env)).all (·.1.isSome) = true) (hks : (backToKw pos (keywordEach kws X.env)).filterMap (·.1) = ks) (hnn : (backToKw pos (keywordEach kws X.env)).any (·.1.isNone) = false)
    (hdb : (x == ("__debug__" : Str)) = false) : PE X (.Call (.Name x p) [] kws pos) (tCallM n ks.length sp gV W tNil tk) := by
  constructor
  intro pins s σ H Q I h
  apply wpAny_Call_Name_kw
  refine ld_glob I hg hm ?_ hdb
  refine PySem.W.callWith_KW0 (h₀ := X.base) I.ok.mod.kin hk hall ?_ (by rw [hnn]; rfl)
  refine thn (hkw.run pos pins s σ H _ I h) fun ws s2 ⟨zs, H2, I2, rz, l1, l2, q2⟩ => ⟨I2.kIn, ?_⟩
  rw [hks]
  exact run_G hG ga hr hb tx I2 .nil rz l1 l2 q2
end
end MI
namespace MI
open PySem PySem.Spec PyProof.Rows L2
variable {K : PySem.W.Frag} {F F' : Fz} {H H' : Hp} {O O' : Fz} {σ σ' : L2.St} {ρ ρ' : Env} {xr : XRep} {W : WX}
/-! ### the values handed to a call -/
theorem RepRs.stp {H0 : Hp} (S : StI K F H O σ ρ) (t : Stp F H O F' H' O') : ∀ {vs : List V} {rs : List R}, RepRs K H0 F H O σ vs rs → RepRs K H0 F' H' O' σ vs rs
  | _, _, .nil => .nil
  | _, _, .cons a b => .cons (a.stp S t) (RepRs.stp S t b)
theorem RepRs.from {H0 H1 : Hp} (k : ∀ a, H1 a = none → H0 a = none) : ∀ {vs : List V} {rs : List R}, RepRs K H1 F H O σ vs rs → RepRs K H0 F H O σ vs rs
  | _, _, .nil => .nil
  | _, _, .cons a b => .cons (a.from k) (RepRs.from k b)
theorem RepRs.append {H0 : Hp} : ∀ {vs ws : List V} {rs ss : List R}, RepRs K H0 F H O σ vs rs → RepRs K H0 F H O σ ws ss → RepRs K H0 F H O σ (vs ++ ws) (rs ++ ss)
  | _, _, _, _, .nil, h => h
  | _, _, _, _, .cons a b, h => .cons a (RepRs.append b h)
theorem RepRs.length {H0 : Hp} : ∀ {vs : List V} {rs : List R}, RepRs K H0 F H O σ vs rs → vs.length = rs.length
  | _, _, .nil => rfl
  | _, _, .cons a b => by simp [RepRs.length b]
theorem RepRs.get {H0 : Hp} : ∀ {vs : List V} {rs : List R} {i : Nat} {r : R}, RepRs K H0 F H O σ vs rs → rs[i]? = some r → ∃ v, vs[i]? = some v ∧ RepR K H0 F H O σ v r
  | _, _, _, _, .nil, e => by simp at e
  | _, _, 0, _, .cons a b, e => by simp at e; subst e; exact ⟨_, rfl, a⟩
  | _, _, i + 1, _, .cons a b, e => by
    obtain ⟨v, h1, h2⟩ := RepRs.get (i := i) b (by simpa using e)
    exact ⟨v, by simpa using h1, h2⟩
/-- handed over: what is new is shared from now on -/
theorem pass_ok {H0 : Hp} {v : V} {r r2 : R} {ref : Bool} (S : StI K F H O σ ρ) (h : RepR K H0 F H O σ v r) (e : R.pass ref r ρ = .ok r2 ρ') :
    ∃ F' O', StI K F' H O' σ ρ' ∧ RepR K H0 F' H O' σ v r2 ∧ Pin ρ ρ' ∧ (∀ a, F a → F' a) ∧ (∀ a, F' a → F a ∨ H0 a = none ∨ O a) ∧ (∀ a, O' a → O a) := by
  have fz : ∀ r, RepR K H0 F H O σ v r → ((MI.frz r ρ).bind fun d ρ => (.ok (.val d) ρ : Out R)) = .ok r2 ρ' → ∃ F' O', StI K F' H O' σ ρ' ∧ RepR K H0 F' H O' σ v r2 ∧ Pin ρ ρ' ∧ (∀ a, F a → F' a) ∧ (∀ a, F' a → F a ∨ H0 a = none ∨ O a) ∧ (∀ a, O' a → O a) := by
    intro r h e
    obtain ⟨d, ρ1, e1, e2⟩ := out_bind e
    cases e2
    obtain ⟨F1, O1, z⟩ := frz_ok S h e1
    exact ⟨F1, O1, z.st, z.dat, z.pin, z.fz, z.fz', z.ow⟩
  cases r with
  | ob C fs => exact h.elim
  | sc ns =>
    cases e
    exact ⟨F, O, S, h, .refl _, fun _ h => h, fun _ h => .inl h, fun _ h => h⟩
  | val d =>
    cases ref with
    | true => cases e; exact ⟨F, O, S, h, .refl _, fun _ h => h, fun _ h => .inl h, fun _ h => h⟩
    | false => exact fz _ h e
  | own i =>
    cases ref with
    | true => cases e; exact ⟨F, O, S, h, .refl _, fun _ h => h, fun _ h => .inl h, fun _ h => h⟩
    | false => exact fz _ h e
  | new xs =>
    cases ref with
    | true =>
      cases e
      obtain ⟨F1, O1, z⟩ := frz_ok (ρ' := ρ) (d := .list xs) S h rfl
      exact ⟨F1, O1, z.st, z.dat, z.pin, z.fz, z.fz', z.ow⟩
    | false => exact fz _ h e
  | newd xs =>
    cases ref with
    | true =>
      cases e
      obtain ⟨F1, O1, z⟩ := frz_ok (ρ' := ρ) (d := .dict xs) S h rfl
      exact ⟨F1, O1, z.st, z.dat, z.pin, z.fz, z.fz', z.ow⟩
    | false => exact fz _ h e
theorem pass_ex {ref : Bool} {r : R} {x : Xn} (e : R.pass ref r ρ = .ex x ρ') : False := by
  have fz : ∀ r, ((MI.frz r ρ).bind fun d ρ => (.ok (.val d) ρ : Out R)) = .ex x ρ' → False := fun r e => by
    cases q : MI.frz r ρ with
    | ok d ρ1 => rw [q] at e; cases e
    | ex y ρ1 => exact frz_ex q
    | no => rw [q] at e; cases e
  cases r <;> cases ref <;> first | (cases e; done) | exact fz _ e
theorem stp_pass {F0 O0 : Fz} {H0 : Hp} (t : Stp F0 H0 O0 F H O) (f1 : ∀ a, F a → F' a) (f2 : ∀ a, F' a → F a ∨ H0 a = none ∨ O a) (f3 : ∀ a, O' a → O a) : Stp F0 H0 O0 F' H O' where
  fz := fun a h => f1 a (t.fz a h)
  fz' := fun a h => by
    rcases f2 a h with q | q | q
    · exact t.fz' a q
    · exact .inr (.inl q)
    · rcases t.ow a q with q | q
      · exact .inr (.inr q)
      · exact .inr (.inl q)
  ow := fun a h => t.ow a (f3 a h)
  hp := t.hp
  all := t.all
abbrev WantR (K : PySem.W.Frag) (xr : XRep) (W : WX) (σ : L2.St) (F : Fz) (H : Hp) (O : Fz) (ρ : Env) (o : Out (List R)) (Q : List V → Hp → Prop) : Prop :=
  WantG K xr W (fun F' H' O' vs rs => RepRs K H F' H' O' σ vs rs) σ F H O ρ o Q
abbrev RunR (X : Cx) (xr : XRep) (W : WX) (t : TA) (ev : Env → Out (List R)) : Prop := ∀ F H O σ ρ Q, StI X.K F H O σ ρ → WantR X.K xr W σ F H O ρ (ev ρ) Q → t σ H Q
section
variable {X : Cx} {cx : Cxt}
theorem runr_nil {refs : List Bool} : RunR X xr W tNil (evRs cx [] refs) := fun F H O σ ρ Q S w => by
  simp only [evRs] at w
  exact w F H O _ S .refl (.refl _) .nil
theorem runr_cons {te : TE} {t : TA} {x : Ex} {xs : List Ex} {refs : List Bool} (ka : RunE X xr W te (evE cx x)) (kb : RunR X xr W t (evRs cx xs refs.tail)) : RunR X xr W (tCons te t) (evRs cx (x :: xs) refs) := by
  intro F H O σ ρ Q S w
  simp only [evRs] at w
  rw [bindA] at w
  refine ka F H O σ ρ _ S (WantG.seq .refl (.refl _) w fun r ρ1 F1 H1 O1 v S1 _ t1 p1 r1 w => ?_)
  cases e : R.pass (refs.headD true) r ρ1 with
  | no => rw [e] at w; exact w.elim
  | ex z ρ2 => exact (pass_ex e).elim
  | ok r2 ρ2 =>
    rw [e] at w
    obtain ⟨F2, O2, S2, rr, p2, f1, f2, f3⟩ := pass_ok S1 r1 e
    have t2 := stp_pass t1 f1 f2 f3
    have w' : WantG X.K xr W (fun F' H' O' vs rs => RepRs X.K H F' H' O' σ vs rs) σ F H O ρ ((evRs cx xs refs.tail ρ2).bind fun rs ρ => .ok (r2 :: rs) ρ) Q := w
    refine kb F2 H1 O2 σ ρ2 _ S2 (WantG.seq t2 (p1.trans p2) w' fun rs ρ3 F3 H3 O3 vs S3 t23 t3 p3 r3 w => ?_)
    exact w F3 H3 O3 _ S3 t3 p3 (.cons (rr.stp S2 t23) (r3.from fun a e => t2.none e))
structure PDr (X : Cx) (xr : XRep) (W : WX) (es : List Expr) (ev : Env → Out (List R)) : Prop where
  run : ∃ t : TA, PA X es t ∧ (es = [] → t = tNil) ∧ RunR X xr W t ev
structure PDk (X : Cx) (xr : XRep) (W : WX) (kws : List Keyword) (ev : Env → Out (List R)) : Prop where
  run : ∃ t : TA, PK X kws t ∧ RunR X xr W t ev
theorem pdr_nil {refs : List Bool} : PDr X xr W [] (evRs cx [] refs) := ⟨_, pa_nil, fun _ => rfl, runr_nil⟩
theorem pdr_cons {e : Expr} {es : List Expr} {x : Ex} {xs : List Ex} {refs : List Bool} (hs : noStar e = true) (ha : PD X xr W e (evE cx x)) (hb : PDr X xr W es (evRs cx xs refs.tail)) : PDr X xr W (e :: es) (evRs cx (x :: xs) refs) := by
  obtain ⟨ta, pa, ka⟩ := ha.run
  obtain ⟨tb, pb, _, kb⟩ := hb.run
  exact ⟨_, pa_cons pa pb (star_one hs _ _), fun h => (by cases h), runr_cons ka kb⟩
theorem pdk_nil {refs : List Bool} : PDk X xr W [] (evRs cx [] refs) := ⟨_, pk_nil, runr_nil⟩
theorem pdk_cons {e : Expr} {nm : Option Str} {kpos : Pos} {kws : List Keyword} {x : Ex} {xs : List Ex} {refs : List Bool} (ha : PD X xr W e (evE cx x)) (hb : PDk X xr W kws (evRs cx xs refs.tail)) : PDk X xr W (⟨nm, e, kpos⟩ :: kws) (evRs cx (x :: xs) refs) := by
  obtain ⟨ta, pa, ka⟩ := ha.run
  obtain ⟨tb, pb, kb⟩ := hb.run
  exact ⟨_, pk_cons pa pb, runr_cons ka kb⟩
end
theorem evRs_append (cx : Cxt) : ∀ (xs ys : List Ex) (refs : List Bool) (ρ : Env), evRs cx (xs ++ ys) refs ρ = (evRs cx xs refs ρ).bind fun rs ρ => (evRs cx ys (refs.drop xs.length) ρ).bind fun ss ρ => .ok (rs ++ ss) ρ
  | [], ys, refs, ρ => by
    simp only [List.nil_append, evRs, Out.bind, List.length_nil, List.drop_zero]
    cases evRs cx ys refs ρ <;> rfl
  | x :: xs, ys, refs, ρ => by
    simp only [List.cons_append, evRs]
    cases (evE cx x ρ).bind (R.pass (refs.headD true)) with
    | ex z ρ1 => rfl
    | no => rfl
    | ok r ρ1 =>
      show (evRs cx (xs ++ ys) refs.tail ρ1).bind _ = ((evRs cx xs refs.tail ρ1).bind _).bind _
      rw [evRs_append cx xs ys refs.tail ρ1]
      have this : refs.tail.drop xs.length = refs.drop (x :: xs).length := by simp [List.drop_tail]
      cases evRs cx xs refs.tail ρ1 with
      | ex z ρ2 => rfl
      | no => rfl
      | ok rs ρ2 =>
        show ((evRs cx ys (refs.tail.drop xs.length) ρ2).bind _).bind _ = (evRs cx ys (refs.drop (x :: xs).length) ρ2).bind _
        rw [this]
        cases evRs cx ys (refs.drop (x :: xs).length) ρ2 <;> rfl
/-! ### what a def promises -/
inductive RepMs (K : PySem.W.Frag) (F : Fz) (H : Hp) (O : Fz) : List V → List M → Prop
  | nil : RepMs K F H O [] []
  | cons {v : V} {vs : List V} {m : M} {ms : List M} : RepM K F H O v m → RepMs K F H O vs ms → RepMs K F H O (v :: vs) (m :: ms)
theorem RepMs.length : ∀ {vs : List V} {ms : List M}, RepMs K F H O vs ms → vs.length = ms.length
  | _, _, .nil => rfl
  | _, _, .cons a b => by simp [RepMs.length b]
theorem RepMs.get : ∀ {vs : List V} {ms : List M} {i : Nat} {m : M}, RepMs K F H O vs ms → ms[i]? = some m → ∃ v, vs[i]? = some v ∧ RepM K F H O v m
  | _, _, _, _, .nil, e => by simp at e
  | _, _, 0, _, .cons a b, e => by simp at e; subst e; exact ⟨_, rfl, a⟩
  | _, _, i + 1, _, .cons a b, e => by
    obtain ⟨v, h1, h2⟩ := RepMs.get (i := i) b (by simpa using e)
    exact ⟨v, by simpa using h1, h2⟩
structure ArgOk (K : PySem.W.Frag) (F : Fz) (H : Hp) (O : Fz) (vs : List V) (ms : List M) : Prop where
  rep : RepMs K F H O vs ms
  dom : ∀ a, F a → H a ≠ none
  odom : ∀ a, O a → H a ≠ none ∧ ¬ F a
  sep : ∀ (i j : Nat) (a : Addr) (m m' : M), i ≠ j → ms[i]? = some m → ms[j]? = some m' → m.isOwn = true → m'.isOwn = true → vs[i]? = some (.ref a) → vs[j]? = some (.ref a) → False
  only : ∀ a, O a → ∃ (i : Nat) (m : M), ms[i]? = some m ∧ m.isOwn = true ∧ vs[i]? = some (.ref a)
/-- from the heap at the call's start to that at its end -/
structure CallStp (F : Fz) (H : Hp) (O : Fz) (F' : Fz) (H' : Hp) : Prop where
  fz : ∀ a, F a → F' a
  fz' : ∀ a, F' a → F a ∨ H a = none
  dom : ∀ a, F' a → H' a ≠ none
  hp : ∀ a, H a ≠ none → ¬ O a → H' a = H a
  all : ∀ a, H a ≠ none → H' a ≠ none
def FinOk (K : PySem.W.Frag) (F' : Fz) (H' : Hp) (O : Fz) (vs : List V) (ms fin : List M) : Prop :=
  ∀ (i : Nat) (m m' : M) (v : V), ms[i]? = some m → m.isOwn = true → fin[i]? = some m' → vs[i]? = some v → RepM K F' H' O v m'
def ResOk (K : PySem.W.Frag) (H : Hp) (F' : Fz) (H' : Hp) (v : V) : M → Prop
  | .sh d => Dat K F' H' v d
  | .ol _ xs => ∃ a vs, v = .ref a ∧ ¬ F' a ∧ H a = none ∧ H' a = some (.lst vs) ∧ Dats K F' H' vs xs
  | .od _ ds => ∃ a kvs, v = .ref a ∧ ¬ F' a ∧ H a = none ∧ H' a = some (.dK kvs) ∧ Dats K F' H' (kvs.map fun p => kV p.1) (ds.map (·.1)) ∧ Dats K F' H' (kvs.map (·.2)) (ds.map (·.2))
  | .ob _ _ => False
  | .sc _ => False
def WantC (K : PySem.W.Frag) (xr : XRep) (F : Fz) (H : Hp) (O : Fz) (vs : List V) (ms : List M) (o : FOut) (Q : VK) (E : XK) : Prop := match o with
  | .ret m fin => ∀ F' H' v, CallStp F H O F' H' → FinOk K F' H' O vs ms fin → ResOk K H F' H' v m → Q v H'
  | .ex x fin => ∀ F' H' cls d, CallStp F H O F' H' → FinOk K F' H' O vs ms fin → xr F' H' cls d x → E cls d H'
  | .no => False
def SpMi (K : PySem.W.Frag) (xr : XRep) (φ : List M → FOut) : Sp := fun vs H Q E => ∃ F O ms, ArgOk K F H O vs ms ∧ WantC K xr F H O vs ms (φ ms) Q E
end MI
namespace MI
open PySem PySem.Spec PyProof.Rows L2
variable {K : PySem.W.Frag} {F F' : Fz} {H H' : Hp} {O O' : Fz} {σ σ' : L2.St} {ρ ρ' : Env} {xr : XRep} {W : WX}
def M.pin : M → M
  | .ol _ xs => .ol true xs
  | .od _ xs => .od true xs
  | m => m
inductive Pick (K : PySem.W.Frag) (all : List V) : List Arg → List V → Prop
  | nil : Pick K all [] []
  | e {k : Nat} {v : V} {src : List Arg} {out : List V} : all[k]? = some v → Pick K all src out → Pick K all (.e k :: src) (v :: out)
  | d {x : D} {v : V} {src : List Arg} {out : List V} : (∀ F H, Dat K F H v x) → Pick K all src out → Pick K all (.d x :: src) (v :: out)
inductive Handed (K : PySem.W.Frag) (F : Fz) (H : Hp) (σ : L2.St) (ρ : Env) : List (Option Nat) → List M → List V → Prop
  | nil : Handed K F H σ ρ [] [] []
  | own {j : Nat} {v : V} {m0 : M} {os : List (Option Nat)} {ms : List M} {out : List V} : ρ.get j = some m0 → m0.isOwn = true → σ[j]? = some (some v) → Handed K F H σ ρ os ms out → Handed K F H σ ρ (some j :: os) (m0.pin :: ms) (v :: out)
  | oth {v : V} {m : M} {os : List (Option Nat)} {ms : List M} {out : List V} : m.isOwn = false → (∀ O, RepM K F H O v m) → Handed K F H σ ρ os ms out → Handed K F H σ ρ (none :: os) (m :: ms) (v :: out)
theorem handed {H0 : Hp} {all : List V} {rs : List R} (S : StI K F H O σ ρ) (hr : RepRs K H0 F H O σ all rs) : ∀ {src : List Arg} {ms : List M} {out : List V}, argsOf ρ rs src = some ms → Pick K all src out → Handed K F H σ ρ (ownsOf ρ rs src) ms out
  | [], _, _, e, p => by
    cases p
    cases e
    exact .nil
  | .d x :: src, _, _, e, p => by
    cases p with
    | d hd p =>
      simp only [argsOf, Option.map_eq_some_iff] at e
      obtain ⟨ms', e1, rfl⟩ := e
      exact .oth rfl (fun O => hd F H) (handed S hr e1 p)
  | .e k :: src, _, _, e, p => by
    cases p with
    | e hk p =>
      simp only [argsOf, Option.bind_eq_some_iff, Option.map_eq_some_iff] at e
      obtain ⟨r, hrk, m, hm, ms', e1, rfl⟩ := e
      have rest := handed S hr e1 p
      obtain ⟨v', hv', rr⟩ := hr.get hrk
      have : v' = _ := Option.some.inj (hv'.symm.trans hk)
      subst this
      unfold ownsOf
      rw [hrk]
      cases r with
      | val d => cases hm; exact .oth rfl (fun O => rr) rest
      | new xs => cases hm
      | newd xs => cases hm
      | ob C fs => exact rr.elim
      | sc ns => cases hm; exact .oth rfl (fun O => rr) rest
      | own i =>
        change (ρ.get i).bind _ = some m at hm
        cases q : ρ.get i with
        | none => rw [q] at hm; cases hm
        | some m0 =>
          rw [q] at hm
          obtain ⟨w, hw, rm⟩ := S.var i m0 q
          have ew : w = v' := by
            have := hw.symm.trans rr
            simpa using this
          subst ew
          cases m0 with
          | sh d =>
            cases hm
            show Handed K F H σ ρ ((if ((ρ.get i).map M.isOwn).getD false then some i else none) :: ownsOf ρ rs src) _ _
            rw [q]
            exact .oth rfl (fun O => rm) rest
          | ol p' xs =>
            cases hm
            show Handed K F H σ ρ ((if ((ρ.get i).map M.isOwn).getD false then some i else none) :: ownsOf ρ rs src) _ _
            have : (if ((ρ.get i).map M.isOwn).getD false then some i else none) = some i := by rw [q]; rfl
            rw [this]
            exact .own (m0 := .ol p' xs) q rfl hw rest
          | od p' xs =>
            cases hm
            show Handed K F H σ ρ ((if ((ρ.get i).map M.isOwn).getD false then some i else none) :: ownsOf ρ rs src) _ _
            have : (if ((ρ.get i).map M.isOwn).getD false then some i else none) = some i := by rw [q]; rfl
            rw [this]
            exact .own (m0 := .od p' xs) q rfl hw rest
          | ob C fs => exact rm.elim
          | sc ns =>
            cases hm
            show Handed K F H σ ρ ((if ((ρ.get i).map M.isOwn).getD false then some i else none) :: ownsOf ρ rs src) _ _
            rw [q]
            exact .oth rfl (fun O => rm) rest
theorem pin_own {m : M} : m.pin.isOwn = m.isOwn := by cases m <;> rfl
theorem Handed.at : ∀ {os : List (Option Nat)} {ms : List M} {out : List V} {i j : Nat}, Handed K F H σ ρ os ms out → os[i]? = some (some j) → ∃ m0 v, ρ.get j = some m0 ∧ m0.isOwn = true ∧ σ[j]? = some (some v) ∧ ms[i]? = some m0.pin ∧ out[i]? = some v
  | _, _, _, _, _, .nil, e => by simp at e
  | _, _, _, 0, _, .own a b c h, e => by simp at e; subst e; exact ⟨_, _, a, b, c, rfl, rfl⟩
  | _, _, _, 0, _, .oth a b h, e => by simp at e
  | _, _, _, i + 1, _, .own a b c h, e => by simpa using Handed.at (i := i) h (by simpa using e)
  | _, _, _, i + 1, _, .oth a b h, e => by simpa using Handed.at (i := i) h (by simpa using e)
theorem Handed.own_at : ∀ {os : List (Option Nat)} {ms : List M} {out : List V} {i : Nat} {m : M}, Handed K F H σ ρ os ms out → ms[i]? = some m → m.isOwn = true → ∃ j, os[i]? = some (some j)
  | _, _, _, _, _, .nil, e, _ => by simp at e
  | _, _, _, 0, _, .own a b c h, e, _ => ⟨_, rfl⟩
  | _, _, _, 0, _, .oth a b h, e, o => by simp at e; subst e; rw [a] at o; cases o
  | _, _, _, i + 1, _, .own a b c h, e, o => by simpa using Handed.own_at (i := i) h (by simpa using e) o
  | _, _, _, i + 1, _, .oth a b h, e, o => by simpa using Handed.own_at (i := i) h (by simpa using e) o
theorem Handed.rep {Oc : Fz} (h : ∀ j m0 v, ρ.get j = some m0 → m0.isOwn = true → σ[j]? = some (some v) → RepM K F H Oc v m0.pin) : ∀ {os : List (Option Nat)} {ms : List M} {out : List V}, (∀ j, some j ∈ os → some j ∈ os) → Handed K F H σ ρ os ms out → RepMs K F H Oc out ms
  | _, _, _, _, .nil => .nil
  | _, _, _, _, .own a b c r => .cons (h _ _ _ a b c) (Handed.rep h (fun _ h => h) r)
  | _, _, _, _, .oth a b r => .cons (b Oc) (Handed.rep h (fun _ h => h) r)
/-- the addresses that are lent -/
def Lent (σ : L2.St) (os : List (Option Nat)) : Fz := fun a => ∃ j, some j ∈ os ∧ σ[j]? = some (some (.ref a))
theorem Handed.mem {os : List (Option Nat)} {ms : List M} {out : List V} (h : Handed K F H σ ρ os ms out) {j : Nat} (m : some j ∈ os) : ∃ m0 v, ρ.get j = some m0 ∧ m0.isOwn = true ∧ σ[j]? = some (some v) := by
  obtain ⟨i, hi⟩ := List.mem_iff_getElem?.mp m
  obtain ⟨m0, v, h1, h2, h3, _⟩ := h.at hi
  exact ⟨m0, v, h1, h2, h3⟩
theorem lent_own {os : List (Option Nat)} {ms : List M} {out : List V} {a : Addr} (S : StI K F H O σ ρ) (h : Handed K F H σ ρ os ms out) (l : Lent σ os a) : O a := by
  obtain ⟨j, hj, e⟩ := l
  obtain ⟨m0, v, h1, h2, h3⟩ := h.mem hj
  obtain ⟨u, g1, g2⟩ := S.var j m0 h1
  obtain ⟨b, e1, ob⟩ := g2.own h2
  rw [e] at g1
  cases g1
  cases e1
  exact ob
theorem os_inj {os : List (Option Nat)} (nd : (os.filterMap id).Nodup) {i k j : Nat} (h1 : os[i]? = some (some j)) (h2 : os[k]? = some (some j)) : i = k := by
  induction os generalizing i k with
  | nil => simp at h1
  | cons o os ih =>
    have nd' : (os.filterMap id).Nodup := by
      cases o with
      | none => simpa using nd
      | some x => exact (List.nodup_cons.mp (by simpa using nd)).2
    have nmem : ∀ n, os[n]? = some (some j) → o ≠ some j := fun n hn e => by
      subst e
      have : j ∉ os.filterMap id := (List.nodup_cons.mp (by simpa using nd)).1
      exact this (List.mem_filterMap.mpr ⟨some j, List.mem_iff_getElem?.mpr ⟨n, hn⟩, rfl⟩)
    cases i with
    | zero =>
      cases k with
      | zero => rfl
      | succ k => exact absurd (by simpa using h1) (nmem k (by simpa using h2))
    | succ i =>
      cases k with
      | zero => exact absurd (by simpa using h2) (nmem i (by simpa using h1))
      | succ k => rw [ih nd' (i := i) (k := k) (by simpa using h1) (by simpa using h2)]
theorem arg_ok {os : List (Option Nat)} {ms : List M} {out : List V} (S : StI K F H O σ ρ) (nd : (os.filterMap id).Nodup) (h : Handed K F H σ ρ os ms out) : ArgOk K F H (Lent σ os) out ms where
  rep := by
    have key : ∀ {os' : List (Option Nat)} {ms : List M} {out : List V}, (∀ j, some j ∈ os' → some j ∈ os) → Handed K F H σ ρ os' ms out → RepMs K F H (Lent σ os) out ms := by
      intro os' ms out sub h
      induction h with
      | nil => exact .nil
      | @own j v m0 os1 ms1 out1 a b c r ih =>
        refine .cons ?_ (ih fun j hj => sub j (List.mem_cons_of_mem _ hj))
        have lm : some j ∈ os := sub j List.mem_cons_self
        obtain ⟨u, g1, g2⟩ := S.var j m0 a
        rw [c] at g1
        cases g1
        cases m0 with
        | ol p xs =>
          obtain ⟨q, vs, rfl, oq, hq, dq⟩ := g2
          exact ⟨q, vs, rfl, ⟨j, lm, c⟩, hq, dq⟩
        | od p xs =>
          obtain ⟨q, vs, rfl, oq, hq, dq, dq2⟩ := g2
          exact ⟨q, vs, rfl, ⟨j, lm, c⟩, hq, dq, dq2⟩
        | sh d => cases b
        | ob C fs => cases b
        | sc ns => cases b
      | oth a b r ih => exact .cons (b _) (ih fun j hj => sub j (List.mem_cons_of_mem _ hj))
    exact key (fun _ h => h) h
  dom := S.dom
  odom := fun a l => S.odom a (lent_own S h l)
  sep := fun i k a m m' ne e1 e2 o1 o2 v1 v2 => by
    obtain ⟨j1, h1⟩ := h.own_at e1 o1
    obtain ⟨j2, h2⟩ := h.own_at e2 o2
    obtain ⟨m1, w1, a1, b1, c1, _, d1⟩ := h.at h1
    obtain ⟨m2, w2, a2, b2, c2, _, d2⟩ := h.at h2
    rw [v1] at d1
    rw [v2] at d2
    cases d1
    cases d2
    have nj : j1 ≠ j2 := fun e => by
      subst e
      exact ne (os_inj nd h1 h2)
    exact S.sep j1 j2 a m1 m2 nj a1 a2 b1 b2 c1 c2
  only := fun a l => by
    obtain ⟨j, hj, e⟩ := l
    obtain ⟨i, hi⟩ := List.mem_iff_getElem?.mp hj
    obtain ⟨m0, v, h1, h2, h3, h4, h5⟩ := h.at hi
    rw [e] at h3
    cases h3
    exact ⟨i, _, h4, by rw [pin_own]; exact h2, h5⟩
/-! ### what comes back -/
def mix (m0 m' : M) : Option M := match some m0, m' with
  | some (.ol p _), .ol _ xs => some (.ol p xs)
  | some (.od p _), .od _ kvs => some (.od p kvs)
  | _, _ => none
theorem backOf_len : ∀ (os : List (Option Nat)) (fin : List M) (ρ : Env), (backOf ρ os fin).length = ρ.length
  | [], _, _ => rfl
  | some i :: os, [], _ => rfl
  | none :: os, [], _ => rfl
  | some i :: os, m :: fin, ρ => by unfold backOf; rw [backOf_len os fin]; simp
  | none :: os, m :: fin, ρ => by unfold backOf; exact backOf_len os fin ρ
theorem backOf_out {j : Nat} : ∀ (os : List (Option Nat)) (fin : List M) (ρ : Env), some j ∉ os → Env.get (backOf ρ os fin) j = ρ.get j
  | [], _, _, _ => rfl
  | some i :: os, [], _, _ => rfl
  | none :: os, [], _, _ => rfl
  | some i :: os, m :: fin, ρ, h => by
    simp only [List.mem_cons, not_or] at h
    unfold backOf
    rw [backOf_out os fin _ h.2, get_set_ne fun e => h.1 (by rw [e])]
  | none :: os, m :: fin, ρ, h => by
    simp only [List.mem_cons, not_or] at h
    unfold backOf
    exact backOf_out os fin ρ h.2
theorem backOf_in {j : Nat} {m0 m' : M} : ∀ (os : List (Option Nat)) (fin : List M) (ρ : Env) (i : Nat), (os.filterMap id).Nodup → os[i]? = some (some j) → fin[i]? = some m' → ρ.get j = some m0 → Env.get (backOf ρ os fin) j = mix m0 m'
  | [], _, _, _, _, h, _, _ => by simp at h
  | some k :: os, [], _, _, _, _, h, _ => by simp at h
  | none :: os, [], _, _, _, _, h, _ => by simp at h
  | some k :: os, m :: fin, ρ, 0, nd, h, f, g => by
    simp at h f
    subst h f
    have nm : k ∉ os.filterMap id := (List.nodup_cons.mp (by simpa using nd)).1
    unfold backOf
    rw [backOf_out os fin _ fun q => nm (List.mem_filterMap.mpr ⟨some k, q, rfl⟩), get_set_self (get_lt g), g]
    rfl
  | none :: os, m :: fin, ρ, 0, nd, h, f, g => by simp at h
  | some k :: os, m :: fin, ρ, i + 1, nd, h, f, g => by
    have nd' := List.nodup_cons.mp (show (k :: os.filterMap id).Nodup by simpa using nd)
    have h' : os[i]? = some (some j) := by simpa using h
    have ne : k ≠ j := fun e => nd'.1 (List.mem_filterMap.mpr ⟨some j, List.mem_iff_getElem?.mpr ⟨i, h'⟩, by rw [e]; rfl⟩)
    unfold backOf
    exact backOf_in os fin _ i nd'.2 h' (by simpa using f) ((get_set_ne ne).trans g)
  | none :: os, m :: fin, ρ, i + 1, nd, h, f, g => by
    unfold backOf
    exact backOf_in os fin ρ i (by simpa using nd) (by simpa using h) (by simpa using f) g
theorem kinds_at : ∀ {ms fin : List M} {i : Nat} {m0 : M}, kinds ms fin = true → ms[i]? = some m0.pin → m0.isOwn = true → ∃ m' m'', fin[i]? = some m' ∧ mix m0 m' = some m'' ∧ m''.isOwn = true ∧ m''.pinned = m0.pinned ∧ ∀ {F : Fz} {H : Hp} {O O' : Fz} {v : V}, (∀ a, O a → O' a) → RepM K F H O v m' → RepM K F H O' v m''
  | [], _, _, _, _, e, _ => by simp at e
  | m :: ms, [], _, _, k, _, _ => by simp [kinds] at k
  | m :: ms, m' :: fin, 0, m0, k, e, o => by
    simp at e
    subst e
    unfold kinds at k
    rw [Bool.and_eq_true] at k
    cases m0 with
    | ol p xs =>
      cases m' with
      | ol q ys => exact ⟨_, _, rfl, rfl, rfl, rfl, fun sub h => by obtain ⟨a, vs, e, o, h1, h2⟩ := h; exact ⟨a, vs, e, sub a o, h1, h2⟩⟩
      | od q ys => cases k.1
      | sh d => cases k.1
      | ob C fs => cases k.1
      | sc ns => cases k.1
    | od p xs =>
      cases m' with
      | od q ys => exact ⟨_, _, rfl, rfl, rfl, rfl, fun sub h => by obtain ⟨a, vs, e, o, h1, h2, h3⟩ := h; exact ⟨a, vs, e, sub a o, h1, h2, h3⟩⟩
      | ol q ys => cases k.1
      | sh d => cases k.1
      | ob C fs => cases k.1
      | sc ns => cases k.1
    | sh d => cases o
    | ob C fs => cases o
    | sc ns => cases o
  | m :: ms, m' :: fin, i + 1, m0, k, e, o => by
    unfold kinds at k
    rw [Bool.and_eq_true] at k
    obtain ⟨m1, m2, h1, h2⟩ := kinds_at (i := i) k.2 (by simpa using e) o
    exact ⟨m1, m2, by simpa using h1, h2⟩
theorem back_ok {os : List (Option Nat)} {ms fin : List M} {out : List V} (S : StI K F H O σ ρ) (nd : (os.filterMap id).Nodup) (h : Handed K F H σ ρ os ms out) (kd : kinds ms fin = true) (C : CallStp F H (Lent σ os) F' H') (fo : FinOk K F' H' (Lent σ os) out ms fin) :
    StI K F' H' O σ (backOf ρ os fin) ∧ Stp F H O F' H' O ∧ Pin ρ (backOf ρ os fin) := by
  have sub : ∀ a, Lent σ os a → O a := fun a l => lent_own S h l
  have xt : Ext F H F' H' := fun a f => ⟨C.fz a f, C.hp a (S.dom a f) fun l => (S.odom a (sub a l)).2 f⟩
  -- each name: lent, or as it was
  have cas : ∀ j, (∃ (i : Nat) (m0 m' m'' : M) (v : V), os[i]? = some (some j) ∧ ρ.get j = some m0 ∧ m0.isOwn = true ∧ σ[j]? = some (some v) ∧ Env.get (backOf ρ os fin) j = some m'' ∧ m''.isOwn = true ∧ m''.pinned = m0.pinned ∧ RepM K F' H' O v m'') ∨ (some j ∉ os ∧ Env.get (backOf ρ os fin) j = ρ.get j) := by
    intro j
    by_cases hj : some j ∈ os
    · obtain ⟨i, hi⟩ := List.mem_iff_getElem?.mp hj
      obtain ⟨m0, v, h1, h2, h3, h4, h5⟩ := h.at hi
      obtain ⟨m', m'', k1, k2, k3, k4, k5⟩ := kinds_at (K := K) kd h4 h2
      exact .inl ⟨i, m0, m', m'', v, hi, h1, h2, h3, (backOf_in os fin ρ i nd hi k1 h1).trans k2, k3, k4, k5 sub (fo i _ m' v h4 (by rw [pin_own]; exact h2) k1 h5)⟩
    · exact .inr ⟨hj, backOf_out os fin ρ hj⟩
  refine ⟨⟨by rw [backOf_len]; exact S.len, fun j m e => ?_, C.dom, fun a o => ⟨C.all a (S.odom a o).1, fun f => ?_⟩, fun i j a m m' ne e1 e2 o1 o2 v1 v2 => ?_⟩, ⟨C.fz, fun a f => ?_, fun a o => .inl o, fun a n no => C.hp a n fun l => no (sub a l), C.all⟩, backOf_len os fin ρ, fun j m e p => ?_⟩
  · rcases cas j with ⟨i, m0, m', m'', v, h1, h2, h3, h4, h5, h6, h7, h8⟩ | ⟨hj, h2⟩
    · rw [h5] at e
      cases e
      exact ⟨v, h4, h8⟩
    · rw [h2] at e
      obtain ⟨v, g1, g2⟩ := S.var j m e
      refine ⟨v, g1, ?_⟩
      have far : ∀ a, v = .ref a → m.isOwn = true → ¬ Lent σ os a := fun a ev om ⟨j', hj', ej'⟩ => by
        obtain ⟨m1, v1, q1, q2, q3⟩ := h.mem hj'
        subst ev
        exact S.sep j j' a m m1 (fun e => hj (e ▸ hj')) e q1 om q2 g1 ej'
      cases m with
      | sh d => exact Dat.ext xt g2
      | ol p xs =>
        obtain ⟨a, vs, ev, oa, ha, hd⟩ := g2
        exact ⟨a, vs, ev, oa, (C.hp a (by rw [ha]; simp) (far a ev rfl)).trans ha, Dats.ext xt hd⟩
      | od p xs =>
        obtain ⟨a, vs, ev, oa, ha, hd, hd2⟩ := g2
        exact ⟨a, vs, ev, oa, (C.hp a (by rw [ha]; simp) (far a ev rfl)).trans ha, Dats.ext xt hd, Dats.ext xt hd2⟩
      | ob C fs => exact g2
      | sc ns =>
        obtain ⟨a, ev, q⟩ := g2
        rcases q with ⟨f, r⟩ | r
        · exact ⟨a, ev, .inl ⟨(xt a f).1, Rd.ext (xt a f).2 r⟩⟩
        · exact ⟨a, ev, .inr r⟩
  · rcases C.fz' a f with q | q
    · exact (S.odom a o).2 q
    · exact (S.odom a o).1 q
  · have own : ∀ j m, Env.get (backOf ρ os fin) j = some m → m.isOwn = true → ∃ m1, ρ.get j = some m1 ∧ m1.isOwn = true := fun j m e o => by
      rcases cas j with ⟨i, m0, m', m'', v, h1, h2, h3, h4, h5, h6, h7, h8⟩ | ⟨hj, h2⟩
      · exact ⟨m0, h2, h3⟩
      · rw [h2] at e; exact ⟨m, e, o⟩
    obtain ⟨m1, c1, d1⟩ := own i m e1 o1
    obtain ⟨m2, c2, d2⟩ := own j m' e2 o2
    exact S.sep i j a m1 m2 ne c1 c2 d1 d2 v1 v2
  · rcases C.fz' a f with q | q
    · exact .inl q
    · exact .inr (.inl q)
  · rcases cas j with ⟨i, m0, m', m'', v, h1, h2, h3, h4, h5, h6, h7, h8⟩ | ⟨hj, h2⟩
    · rw [h2] at e
      cases e
      exact ⟨m'', h5, h7.trans p⟩
    · exact ⟨m, h2.trans e, p⟩
theorem res_ok {H0 : Hp} {v : V} {m : M} (S : StI K F H O σ ρ) (h0 : ∀ a, H a = none → H0 a = none) (h : ResOk K H F' H' v m) : RepR K H0 F' H' O σ v m.res := by
  cases m with
  | sh d => exact h
  | ol p xs =>
    obtain ⟨a, vs, e, nf, n, ha, hd⟩ := h
    exact ⟨a, vs, e, nf, fun o => (S.odom a o).1 n, h0 a n, ha, hd⟩
  | od p xs =>
    obtain ⟨a, vs, e, nf, n, ha, hd, hd2⟩ := h
    exact ⟨a, vs, e, nf, fun o => (S.odom a o).1 n, h0 a n, ha, hd, hd2⟩
  | ob C fs => exact h.elim
  | sc ns => exact h.elim
section
variable {X : Cx} {cx : Cxt}
theorem call_run {n m : Nat} {f : Nat} {t tk : TA} {gV : List V → List V → List V} {xs ys : List Ex} {refs : List Bool} {src : List Arg} (ka : RunR X xr W t (evRs cx xs refs)) (kb : RunR X xr W tk (evRs cx ys (refs.drop xs.length)))
    (l1 : ∀ {ρ ρ' rs}, evRs cx xs refs ρ = .ok rs ρ' → rs.length = n) (l2 : ∀ {ρ ρ' rs}, evRs cx ys (refs.drop xs.length) ρ = .ok rs ρ' → rs.length = m)
    (hp : ∀ vs zs : List V, vs.length = n → zs.length = m → Pick X.K (vs ++ zs) src (gV vs zs)) : RunE X xr W (tCallM n m (SpMi X.K xr (cx.φ f)) gV W t tk) (evE cx (.call f (xs ++ ys) refs src)) := by
  intro F H O σ ρ Q S w
  simp only [evE] at w
  rw [evRs_append, bindA] at w
  cases e1 : evRs cx xs refs ρ with
  | no => rw [e1] at w; exact w.elim
  | ex z ρ1 => 
    rw [e1] at w
    exact ka F H O σ ρ _ S (by rw [e1]; exact w)
  | ok rs ρ1 =>
    rw [e1] at w
    refine ka F H O σ ρ _ S ?_
    rw [e1]
    intro F1 H1 O1 vs S1 t1 p1 r1
    have w1 : WantE X.K xr W σ F H O ρ (((evRs cx ys (refs.drop xs.length) ρ1).bind fun ss ρ => .ok (rs ++ ss) ρ).bind fun rs ρ => callR cx f rs src ρ) Q := w
    rw [bindA] at w1
    cases e2 : evRs cx ys (refs.drop xs.length) ρ1 with
    | no => rw [e2] at w1; exact w1.elim
    | ex z ρ2 =>
      rw [e2] at w1
      refine kb F1 H1 O1 σ ρ1 _ S1 ?_
      rw [e2]
      exact fun F2 H2 O2 c d S2 t2 p2 r2 => w1 F2 H2 O2 c d S2 (t1.trans t2) (p1.trans p2) r2
    | ok ss ρ2 =>
      rw [e2] at w1
      refine kb F1 H1 O1 σ ρ1 _ S1 ?_
      rw [e2]
      intro F2 H2 O2 zs S2 t12 p12 r2
      have lv : vs.length = n := by rw [r1.length]; exact l1 e1
      have lz : zs.length = m := by rw [r2.length]; exact l2 e2
      refine ⟨lv, lz, ?_⟩
      have w2 : WantE X.K xr W σ F H O ρ (callR cx f (rs ++ ss) src ρ2) Q := w1
      have rr : RepRs X.K H F2 H2 O2 σ (vs ++ zs) (rs ++ ss) := (r1.stp S1 t12).append (r2.from fun a e => t1.none e)
      have t2 := t1.trans t12
      have p2 := p1.trans p12
      unfold callR at w2
      cases ea : argsOf ρ2 (rs ++ ss) src with
      | none => rw [ea] at w2; exact w2.elim
      | some ms =>
        rw [ea] at w2
        dsimp only at w2
        split at w2
        · rename_i hnd
          have hh := handed S2 rr ea (hp vs zs lv lz)
          refine ⟨F2, Lent σ (ownsOf ρ2 (rs ++ ss) src), ms, arg_ok S2 hnd.1 hh, ?_⟩
          cases ef : cx.φ f ms with
          | no => rw [ef] at w2; exact w2.elim
          | ret m fin =>
            rw [ef] at w2
            dsimp only at w2
            split at w2
            · rename_i kd
              intro F3 H3 v C fo ro
              obtain ⟨S3, t3, p3⟩ := back_ok S2 hnd.1 hh kd C fo
              exact w2 F3 H3 O2 v S3 (t2.trans t3) (p2.trans p3) (res_ok S2 (fun a e => t2.none e) ro)
            · exact w2.elim
          | ex x fin =>
            rw [ef] at w2
            dsimp only at w2
            split at w2
            · rename_i kd
              intro F3 H3 cls d C fo ro
              obtain ⟨S3, t3, p3⟩ := back_ok S2 hnd.1 hh kd C fo
              exact w2 F3 H3 O2 cls d S3 (t2.trans t3) (p2.trans p3) ro
            · exact w2.elim
        · exact w2.elim
end
end MI
namespace MI
open PySem PySem.Spec PyProof.Rows L2
variable {K : PySem.W.Frag} {F F' : Fz} {H H' : Hp} {O O' : Fz} {σ σ' : L2.St} {ρ ρ' : Env} {xr : XRep} {W : WX}
/-- a def by its body -/
theorem fnG_of {P : Program} {w : World} {K : PySem.W.Frag} {mg : Str → Option Value} {base : Heap} {k : Nat} {f : Addr} {name qual : Str} {params : Arguments} {body : List Stmt} {scope : Scope} {dV kV doc pm cdv ct oc : Value} {an od : Option Addr}
    {osl : Array (Option Value)} {N ps : List Str} {sp : Sp} (lk : K.lookup f = some ⟨oc, od, .func (PySem.W.fnOf name qual params body scope dV kV doc pm an cdv ct), osl⟩) (hcd : PySem.W.codeIn K cdv qual = true) (S : FnScope N ps scope)
    (len : ∀ vs H Q E, sp vs H Q E → vs.length = ps.length)
    (hbody : ∀ (A : Around) (outer : List PySem.Env) (s : Shared) (H : Hp) (vs : List V) (Q : VK) (E : XK), A.guards = some [] → Room k (A.deeper (envOfC qual scope s.heap.objs.size f cdv)) → sp vs H Q E →
      ∃ t, PSs (cxOf (L2.CX P w) P w K mg base N qual scope f cdv A outer s H E) body t ∧ t { nx := fun _ H' => Q .non H', rt := Q } (start N vs) H) :
    FnG P w K mg base (k + 1) f (PySem.W.fnOf name qual params body scope dV kV doc pm an cdv ct) ps sp := by
  constructor
  · exact len
  intro A outer s H args us vs Q E hg hr e0 hb r hsp
  have hl := len vs H Q E hsp
  have KX : K.In s.heap := e0.mod.kin.keeps fun b o e => (e0.bs b o e).1
  have kinds : ∀ y ∈ ps.zip us, scope.names.lookup y.1 = some .local ∨ (scope.names.lookup y.1 = some .cell ∧ ((cellsFrom (s.heap.objs.size + 1) scope.names []).lookup y.1).isSome = true) := by
    rintro ⟨n, v⟩ hy
    exact (S.par n (List.of_mem_zip hy).1).imp (fun q => q) fun q => ⟨q, PySem.W.cellsFrom_some _ _ _ (.inl q)⟩
  apply codeAny_call_function hr.depth (KX _ _ lk) rfl S.co S.gen rfl (PySem.W.codeRec_of KX hcd)
  apply hb
  apply wpAny_newFunctionEnv_cells S.kind kinds
  intro env he s1 x
  subst he
  have lim : s.heap.NoLimit := e0.mod.nolimit.keeps fun b o e => (e0.bs b o e).1
  refine ⟨lim.keeps x.toInCall.keep, codeAny_func ?_⟩
  obtain ⟨t, ht, hq⟩ := hbody A outer s H vs Q E hg (hr.deeper _) hsp
  apply wpAny_mono (ht.run [] s1 (start N vs) H _ (inv_start S hr.hd e0 hl r x) hq)
  · intro fl s' hs
    match fl, hs with
    | .ret u, ⟨v, σ', H', J, rv, q⟩ => exact ⟨v, H', J.os, J.bare, J.base, J.hok, rv, q⟩
    | .next, ⟨σ', H', J, q⟩ => exact ⟨.non, H', J.os, J.bare, J.base, J.hok, rfl, q⟩
    | .brk, ⟨_, _, _, q⟩ => exact q.elim
    | .cont, ⟨_, _, _, q⟩ => exact q.elim
  · exact fun e s' hs => hs
/-! ### a body keeps its def's promise -/
theorem finOf_at : ∀ {ms fin : List M} {n i : Nat} {m m' : M}, finOf ρ ms n = some fin → ms[i]? = some m → m.isOwn = true → fin[i]? = some m' → ρ.get (n + i) = some m' ∧ m'.pinned = true
  | [], _, _, _, _, _, _, h, _, _ => by simp at h
  | a :: ms, fin, n, i, m, m', e, h, o, hf => by
    simp only [finOf, Option.bind_eq_some_iff, Option.map_eq_some_iff] at e
    obtain ⟨x, ex, fin', ef, rfl⟩ := e
    cases i with
    | zero =>
      simp at h hf
      subst h hf
      rw [if_pos o] at ex
      simp only [Option.bind_eq_some_iff] at ex
      obtain ⟨y, h1, h2⟩ := ex
      obtain ⟨h3, h4⟩ := gd_some h2
      subst h4
      exact ⟨h1, h3⟩
    | succ i =>
      have := finOf_at (i := i) ef (by simpa using h) o (by simpa using hf)
      rw [← Nat.add_assoc, Nat.add_right_comm]
      exact this
theorem pinned_own {m : M} (h : m.pinned = true) : m.isOwn = true := by cases m <;> first | rfl | cases h
theorem start_get {N : List Str} {vs : List V} {i : Nat} (h : i < vs.length) : (start N vs)[i]? = (vs[i]?).map some := by
  unfold L2.start
  rw [List.getElem?_append_left (by simpa using h), List.getElem?_map]
theorem env0_get {ms : List M} {n i : Nat} : Env.get (ms.map some ++ List.replicate n none) i = ms[i]? := by
  unfold Env.get
  by_cases h : i < ms.length
  · rw [List.getElem?_append_left (by simpa using h), List.getElem?_map]
    cases ms[i]? <;> rfl
  · rw [List.getElem?_append_right (by simpa using h), List.getElem?_replicate, List.getElem?_eq_none (by omega)]
    split <;> rfl
theorem start_ok {N : List Str} {vs : List V} {ms : List M} {n : Nat} (A : ArgOk K F H O vs ms) (hn : N.length = ms.length + n) : StI K F H O (start N vs) (ms.map some ++ List.replicate n none) := by
  have hl := A.rep.length
  refine ⟨?_, fun i m e => ?_, A.dom, A.odom, fun i j a m m' ne e1 e2 o1 o2 v1 v2 => ?_⟩
  · unfold L2.start
    simp
    omega
  · rw [env0_get] at e
    obtain ⟨v, h1, h2⟩ := A.rep.get e
    have hi : i < vs.length := (List.getElem?_eq_some_iff.mp h1).1
    exact ⟨v, by rw [start_get hi, h1]; rfl, h2⟩
  · rw [env0_get] at e1 e2
    obtain ⟨u1, g1, _⟩ := A.rep.get e1
    obtain ⟨u2, g2, _⟩ := A.rep.get e2
    have hi : i < vs.length := (List.getElem?_eq_some_iff.mp g1).1
    have hj : j < vs.length := (List.getElem?_eq_some_iff.mp g2).1
    rw [start_get hi, g1] at v1
    rw [start_get hj, g2] at v2
    cases v1
    cases v2
    exact A.sep i j a m m' ne e1 e2 o1 o2 g1 g2
section
variable {N : List Str} {vs : List V} {ms : List M} {n : Nat}
/-- a lent thing, behind the body -/
theorem lent_end (A : ArgOk K F H O vs ms) (hp : (ms.all fun m => !m.isOwn || m.pinned) = true) (S : StI K F' H' O' σ' ρ') (p : PinS (start N vs) (ms.map some ++ List.replicate n none) σ' ρ') {i : Nat} {m : M} {v : V} (e : ms[i]? = some m) (o : m.isOwn = true) (hv : vs[i]? = some v) :
    ∃ m', ρ'.get i = some m' ∧ m'.pinned = true ∧ σ'[i]? = some (some v) ∧ RepM K F' H' O' v m' := by
  have pm : m.pinned = true := by
    have := List.all_eq_true.mp hp m (List.mem_of_getElem? e)
    simpa [o] using this
  have hi : i < vs.length := (List.getElem?_eq_some_iff.mp hv).1
  obtain ⟨m', h1, h2⟩ := p.pin.2 i m (by rw [env0_get]; exact e) pm
  have h3 := p.sl i m (by rw [env0_get]; exact e) pm
  rw [start_get hi, hv] at h3
  obtain ⟨u, g1, g2⟩ := S.var i m' h1
  rw [h3] at g1
  cases g1
  exact ⟨m', h1, h2, h3, g2⟩
theorem call_stp (A : ArgOk K F H O vs ms) (hp : (ms.all fun m => !m.isOwn || m.pinned) = true) (S : StI K F' H' O' σ' ρ') (p : PinS (start N vs) (ms.map some ++ List.replicate n none) σ' ρ') (t : Stp F H O F' H' O') : CallStp F H O F' H' where
  fz := t.fz
  fz' := fun a f => by
    rcases t.fz' a f with q | q | q
    · exact .inl q
    · exact .inr q
    · obtain ⟨i, m, e, o, hv⟩ := A.only a q
      obtain ⟨m', h1, h2, h3, h4⟩ := lent_end A hp S p e o hv
      obtain ⟨b, eb, ob⟩ := h4.own (pinned_own h2)
      cases eb
      exact ((S.odom a ob).2 f).elim
  dom := S.dom
  hp := t.hp
  all := t.all
theorem fin_ok {fin : List M} (A : ArgOk K F H O vs ms) (hp : (ms.all fun m => !m.isOwn || m.pinned) = true) (S : StI K F' H' O' σ' ρ') (p : PinS (start N vs) (ms.map some ++ List.replicate n none) σ' ρ') (e : finOf ρ' ms 0 = some fin) : FinOk K F' H' O vs ms fin := by
  intro i m m' v em om ef hv
  obtain ⟨m1, h1, h2, h3, h4⟩ := lent_end A hp S p em om hv
  obtain ⟨h5, h6⟩ := finOf_at e em om ef
  rw [Nat.zero_add, h1] at h5
  cases h5
  obtain ⟨u, g1, g2⟩ := A.rep.get em
  rw [hv] at g1
  cases g1
  obtain ⟨a, rfl, oa⟩ := g2.own om
  cases m' with
  | ol q xs =>
    obtain ⟨b, ws, eb, _, hb, hd⟩ := h4
    cases eb
    exact ⟨a, ws, rfl, oa, hb, hd⟩
  | od q xs =>
    obtain ⟨b, ws, eb, _, hb, hd, hd2⟩ := h4
    cases eb
    exact ⟨a, ws, rfl, oa, hb, hd, hd2⟩
  | sh d => cases h2
  | ob C fs => cases h2
  | sc ns => cases h2
theorem ret_ok {r : R} {m : M} {v : V} (A : ArgOk K F H O vs ms) (hp : (ms.all fun m => !m.isOwn || m.pinned) = true) (S : StI K F' H' O' σ' ρ') (p : PinS (start N vs) (ms.map some ++ List.replicate n none) σ' ρ') (t : Stp F H O F' H' O') (rr : RepR K H F' H' O' σ' v r) (e : retM r ρ' = some m) : ResOk K H F' H' v m := by
  have own : ∀ {i : Nat} {m0 : M} {a : Addr}, ρ'.get i = some m0 → m0.isOwn = true → m0.pinned = false → σ'[i]? = some (some (.ref a)) → O' a → H a = none := fun {i m0 a} g o np hv oa => by
    rcases t.ow a oa with q | q
    · obtain ⟨j, m1, e1, o1, hv1⟩ := A.only a q
      obtain ⟨m2, h1, h2, h3, h4⟩ := lent_end A hp S p e1 o1 hv1
      have ne : i ≠ j := fun e => by
        subst e
        rw [g] at h1
        cases h1
        rw [np] at h2
        cases h2
      exact (S.sep i j a m0 m2 ne g h1 o (pinned_own h2) hv h3).elim
    · exact q
  cases r with
  | val d => cases e; exact rr
  | new xs =>
    cases e
    obtain ⟨a, ws, rfl, nf, no, h0, ha, hd⟩ := rr
    exact ⟨a, ws, rfl, nf, h0, ha, hd⟩
  | newd xs =>
    cases e
    obtain ⟨a, ws, rfl, nf, no, h0, ha, hd, hd2⟩ := rr
    exact ⟨a, ws, rfl, nf, h0, ha, hd, hd2⟩
  | ob C fs => exact rr.elim
  | sc ns => cases e
  | own i =>
    cases q : ρ'.get i with
    | none => simp only [retM, q] at e; cases e
    | some m0 =>
      simp only [retM, q] at e
      obtain ⟨u, g1, g2⟩ := S.var i m0 q
      have eu : u = v := by
        have := g1.symm.trans rr
        simpa using this
      subst eu
      cases m0 with
      | sh d => cases e; exact g2
      | ol pp xs =>
        cases pp with
        | true => cases e
        | false =>
          cases e
          obtain ⟨a, ws, rfl, oa, ha, hd⟩ := g2
          exact ⟨a, ws, rfl, (S.odom a oa).2, own q rfl rfl g1 oa, ha, hd⟩
      | od pp xs =>
        cases pp with
        | true => cases e
        | false =>
          cases e
          obtain ⟨a, ws, rfl, oa, ha, hd, hd2⟩ := g2
          exact ⟨a, ws, rfl, (S.odom a oa).2, own q rfl rfl g1 oa, ha, hd, hd2⟩
      | ob C fs => cases e
      | sc ns => cases e
end
section
variable {X : Cx} {cx : Cxt}
theorem body_ok {sts : List Stmt} {fd : Fd} {Q : VK} {E : XK} {vs : List V} (hb : PDss X xr (fun cls d _ H => E cls d H) sts (evSs cx fd.body)) (hN : X.N.length = fd.nS) (h : SpMi X.K xr (runB cx fd) vs H Q E) :
    ∃ t, PSs X sts t ∧ t { nx := fun _ H' => Q .non H', rt := Q } (start X.N vs) H := by
  obtain ⟨t, pt, kt⟩ := hb.run
  refine ⟨t, pt, ?_⟩
  obtain ⟨F, O, ms, A, w⟩ := h
  unfold runB at w
  split at w
  · rename_i hc
    obtain ⟨h1, h2, hp⟩ := hc
    have S0 : StI X.K F H O (start X.N vs) (ms.map some ++ List.replicate (fd.nS - fd.nP) none) := start_ok A (by rw [hN]; omega)
    refine kt F H O _ _ _ S0 ?_
    cases e : evSs cx fd.body (ms.map some ++ List.replicate (fd.nS - fd.nP) none) with
    | no => rw [e] at w; exact w.elim
    | ex x ρ' =>
      rw [e] at w
      dsimp only at w
      cases ef : finOf ρ' ms 0 with
      | none => rw [ef] at w; exact w.elim
      | some fin =>
        rw [ef] at w
        exact fun F' H' O' σ' cls d S t p r => w F' H' cls d (call_stp A hp S p t) (fin_ok A hp S p ef) r
    | ok fl ρ' =>
      rw [e] at w
      dsimp only at w
      cases ef : finOf ρ' ms 0 with
      | none =>
        rw [ef] at w
        cases fl <;> exact w.elim
      | some fin =>
        rw [ef] at w
        cases fl with
        | next => exact fun F' H' O' σ' S t p => w F' H' .non (call_stp A hp S p t) (fin_ok A hp S p ef) .non
        | ret m => exact fun F' H' O' σ' v r S t p rr er => w F' H' v (call_stp A hp S p t) (fin_ok A hp S p ef) (ret_ok A hp S p t rr er)
        | brk => exact w.elim
        | cont => exact w.elim
  · exact w.elim
theorem sp_len {fd : Fd} {vs : List V} {Q : VK} {E : XK} (h : SpMi K xr (runB cx fd) vs H Q E) : vs.length = fd.nP := by
  obtain ⟨F, O, ms, A, w⟩ := h
  unfold runB at w
  split at w
  · rename_i hc
    rw [A.rep.length]
    exact hc.1
  · exact w.elim
end
end MI
namespace MI
open PySem PySem.Spec PyProof.Rows L2
variable {K : PySem.W.Frag} {F F' : Fz} {H H' : Hp} {O O' : Fz} {σ σ' : L2.St} {ρ ρ' : Env} {xr : XRep} {W : WX}
mutual
theorem plain_noDict : ∀ d : D, d.plain = true → d.hasDict = false
  | .none, _ => rfl
  | .bool _, _ => rfl
  | .int _, _ => rfl
  | .str _, _ => rfl
  | .list xs, h => by simpa [PyData.hasDict] using plain_noDictAll xs (by simpa [PyData.plain] using h)
  | .tuple xs, h => by simpa [PyData.hasDict] using plain_noDictAll xs (by simpa [PyData.plain] using h)
  | .dict kvs, h => by simp [PyData.plain] at h
theorem plain_noDictAll : ∀ xs : List D, PyData.plainAll xs = true → PyData.hasDictAll xs = false
  | [], _ => rfl
  | x :: xs, h => by
    have h' : x.plain = true ∧ PyData.plainAll xs = true := by simpa [PyData.plainAll] using h
    simp [PyData.hasDictAll, plain_noDict x h'.1, plain_noDictAll xs h'.2]
end
/-- what stands where sys.modules stands -/
def SysOk (K : PySem.W.Frag) : Prop := ∃ o : Obj, K.lookup sysModules = some o ∧ o.cls = .type "dict"
section
variable {X : Cx} {cx : Cxt} {pins : List (Addr × Obj)} {s : Shared}
theorem SysOk.ne (k : SysOk X.K) (I : Inv X pins σ H s) {a : Addr} {o : Obj} (h : s.heap.get? a = some o) (hc : o.cls = .type "list") : sysModules ≠ a := fun e => by
  obtain ⟨o2, h1, h2⟩ := k
  have h3 := I.kIn _ _ h1
  rw [e, h] at h3
  cases h3
  rw [hc] at h2
  injection h2 with h2
  exact absurd h2 (by decide)
mutual
theorem Dat.reads2 (sk : SysOk X.K) (I : Inv X pins σ H s) : ∀ (d : D) (v : V) (u : Value), Dat X.K F H v d → noList d = true → RelV v u → ∃ as, Reads s.heap u d as ∧ sysModules ∉ as
  | .none, _, _, h, _, r => by cases h; cases r; exact ⟨_, .none, by simp⟩
  | .bool b, _, _, h, _, r => by cases h; cases r; exact ⟨_, .bool b, by simp⟩
  | .int i, _, _, h, _, r => by cases h; obtain ⟨t, rfl⟩ := r; exact ⟨_, .int i t, by simp⟩
  | .str x, _, _, h, _, r => by cases h; obtain ⟨t, rfl⟩ := r; exact ⟨_, .str x t, by simp⟩
  | .list ds, _, _, h, p, r => by
    cases h with
    | lst f hs ha =>
      cases r
      obtain ⟨_, its, n, rv, ho⟩ := (show ObjOk X.prog X.w H s.heap _ (.lst _) from I.hok _ _ hs)
      obtain ⟨as, hr, hn⟩ := Dats.reads2 sk I ds _ its ha (by simpa [noList] using p) rv
      refine ⟨_, .list ho rfl rfl (by simpa using hr), ?_⟩
      simp only [List.mem_cons, not_or]
      exact ⟨sk.ne I ho rfl, hn⟩
  | .tuple ds, _, _, h, p, r => by
    have q : ∃ a vs, _ ∧ SqT X.K H a vs ∧ Dats X.K F H vs ds := Dat1.tup (.sh h)
    obtain ⟨a, vs, rfl, hs, ha⟩ := q
    cases r
    obtain ⟨its, rv, ⟨o, ho, hc, n, hd⟩, _⟩ := I.tuple hs
    obtain ⟨as, hr, hn⟩ := Dats.reads2 sk I ds _ its ha (by simpa [noList] using p) rv
    exact ⟨_, .tuple ho hc hd hr, hn⟩
  | .dict kvs, _, _, h, p, r => by
    have e : kvs = [] := by simpa [noList] using p
    subst e
    cases h with
    | dK f hs t u =>
      rename_i a ks
      cases r
      have ek : ks = [] := by
        cases ks with
        | nil => rfl
        | cons k ks => cases u
      subst ek
      obtain ⟨_, ne, vs, kv, o, es, ep, ho, ex, hd, _, hp, _⟩ := (show ObjOk X.prog X.w H s.heap a (.dK []) from I.hok a _ hs)
      cases kv
      have ee : es.toList = [] := by
        generalize es.toList = l at hp
        cases hp
        rfl
      refine ⟨a :: [] ++ [], .dict ho ex.1 hd (by rw [ee]; exact .nil) (by rw [ee]; exact .nil), ?_⟩
      simp only [List.append_nil, List.mem_singleton]
      intro e
      rw [e] at ne
      simp at ne
theorem Dats.reads2 (sk : SysOk X.K) (I : Inv X pins σ H s) : ∀ (ds : List D) (vs : List V) (us : List Value), Dats X.K F H vs ds → noLists ds = true → Vals vs us → ∃ as, ReadsAll s.heap us ds as ∧ sysModules ∉ as
  | [], _, _, h, _, r => by cases h; cases r; exact ⟨_, .nil, by simp⟩
  | d :: ds, _, _, h, p, r => by
    cases h with
    | cons h1 h2 =>
      cases r with
      | cons r1 r2 =>
        have p' : noList d = true ∧ noLists ds = true := by simpa [noLists] using p
        obtain ⟨as, q1, n1⟩ := Dat.reads2 sk I d _ _ h1 p'.1 r1
        obtain ⟨bs, q2, n2⟩ := Dats.reads2 sk I ds _ _ h2 p'.2 r2
        exact ⟨_, .cons q1 q2, by simp only [List.mem_append, not_or]; exact ⟨n1, n2⟩⟩
end
theorem dict_reads (I : Inv X pins σ H s) {a : Addr} (hs : H a = some (.dK [])) : ∃ as, Reads s.heap (.ref a) (.dict []) as ∧ sysModules ∉ as := by
  obtain ⟨_, ne, vs, kv, o, es, ep, ho, ex, hd, _, hp, _⟩ := (show ObjOk X.prog X.w H s.heap a (.dK []) from I.hok a _ hs)
  cases kv
  have ee : es.toList = [] := by
    generalize es.toList = l at hp
    cases hp
    rfl
  refine ⟨a :: [] ++ [], .dict ho ex.1 hd (by rw [ee]; exact .nil) (by rw [ee]; exact .nil), ?_⟩
  simp only [List.append_nil, List.mem_singleton]
  intro e
  rw [e] at ne
  simp at ne
theorem repr_ok {k : Nat} (sk : SysOk X.K) (hr : Room k X.A) (ga : X.A.guards = some []) : CallR X (.builtin "repr") (rB1 X.K reprD) := by
  intro pins s σ H xs us Q I r h
  obtain ⟨F, v, d, res, rfl, hd, hg, q⟩ := h
  obtain ⟨u, rfl, ru⟩ := r.one
  obtain ⟨g, e⟩ := gd_some hg
  subst e
  unfold okRepr at g
  simp only [Bool.and_eq_true, decide_eq_true_eq, Bool.or_eq_true] at g
  obtain ⟨⟨⟨g2, g3⟩, g4⟩, g5⟩ := g
  have hu := hr.un
  have box : ∀ {a : Addr}, v = .ref a → boxed d = true → ∃ as, Reads s.heap (.ref a) d as ∧ (d.hasDict = true → sysModules ∉ as) := fun {a} ev bx => by
    subst ev
    rcases g5 with p | p
    · obtain ⟨as, h⟩ := Dat1.reads I hd p rfl
      exact ⟨as, h, PyData.noDict_hsm (plain_noDict d p)⟩
    · cases hd with
      | sh hd =>
        obtain ⟨as, h1, h2⟩ := Dat.reads2 sk I d _ _ hd p rfl
        exact ⟨as, h1, fun _ => h2⟩
      | ol hs ha =>
        rename_i ws xs
        obtain ⟨_, its, n, rv, ho⟩ := (show ObjOk X.prog X.w H s.heap _ (.lst _) from I.hok _ _ hs)
        obtain ⟨as, h1, hn⟩ := Dats.reads2 sk I xs _ its ha (by simpa [noList] using p) rv
        refine ⟨_, .list ho rfl rfl (by simpa using h1), fun _ => ?_⟩
        simp only [List.mem_cons, not_or]
        exact ⟨sk.ne I ho rfl, hn⟩
      | od _ _ _ => cases bx
  have alt : (∃ a, v = .ref a ∧ ∃ as, Reads s.heap (.ref a) d as ∧ (d.hasDict = true → sysModules ∉ as)) ∨ (Dat X.K F H v d ∧ boxed d = false ∧ ∀ kvs, d ≠ .dict kvs) := by
    cases d with
    | list xs =>
      obtain ⟨a, vs, e, _⟩ := hd.lst
      exact .inl ⟨a, e, box e rfl⟩
    | tuple xs =>
      obtain ⟨a, vs, e, _⟩ := hd.tup
      exact .inl ⟨a, e, box e rfl⟩
    | dict kvs =>
      have ek : kvs = [] := by
        rcases g5 with p | p
        · simp [PyData.plain] at p
        · simpa [noList] using p
      subst ek
      have q : ∃ a, v = .ref a ∧ H a = some (.dK []) := by
        cases hd with
        | sh hd =>
          cases hd with
          | dK f hs t u =>
            rename_i a ks
            have ek : ks = [] := by
              cases ks with
              | nil => rfl
              | cons k ks => cases u
            subst ek
            exact ⟨a, rfl, hs⟩
        | od hs t u =>
          rename_i a ks
          have ek : ks = [] := by
            cases ks with
            | nil => rfl
            | cons k ks => cases u
          subst ek
          exact ⟨a, rfl, hs⟩
      obtain ⟨a, e, hs⟩ := q
      obtain ⟨as, h1, h2⟩ := dict_reads I hs
      exact .inl ⟨a, e, as, h1, fun _ => h2⟩
    | _ =>
      cases hd with
      | sh hd => exact .inr ⟨hd, rfl, fun _ h => by cases h⟩
  rcases alt with ⟨a, rfl, as, rd, hs⟩ | ⟨hd, bx, nd⟩
  · cases ru
    exact PySem.repr_of_reads' rd g2 hs ga (by omega) (fun b o e => e) (fun h' u tk hk => ⟨.str d.shown, H, I.kept hk, ⟨u, rfl⟩, q _ _ (.same (.str _))⟩) (by rw [← lim_eq]; exact g3)
  · cases d with
    | none =>
      cases hd
      cases ru
      exact PySem.P.repr_of_none ⟨.str _, H, I.tok _, ⟨_, rfl⟩, q _ _ (.same (.str _))⟩
    | bool b =>
      cases hd
      cases ru
      exact PySem.P.repr_of_bool ⟨.str _, H, I.tok _, ⟨_, rfl⟩, q _ _ (.same (.str _))⟩
    | int i =>
      cases hd
      obtain ⟨t, rfl⟩ := ru
      exact PySem.P.repr_of_int (by simpa [PyData.showable] using g2) ⟨.str _, H, I.tok _, ⟨_, rfl⟩, q _ _ (.same (.str _))⟩
    | str x =>
      cases hd
      obtain ⟨t, rfl⟩ := ru
      exact PySem.P.repr_of_str ⟨.str _, H, I.tok _, ⟨_, rfl⟩, q _ _ (.same (.str _))⟩ (by rw [← lim_eq]; exact g3)
    | list xs => cases bx
    | tuple xs => cases bx
    | dict kvs => exact absurd rfl (nd kvs)
theorem repr_boot : bootBuiltins "repr" = some (.builtin "repr") := by decide +kernel
theorem pd_repr {k : Nat} (sk : SysOk X.K) (hr : Room k X.A) (ga : X.A.guards = some []) {a : Expr} {x : Ex} {p pos : Pos} (hg : Gl X "repr") (hm : X.mg "repr" = none) (hs : noStar a = true) (ha : PD X xr W a (evE cx x)) : PD X xr W (.Call (.Name "repr" p) [a] [] pos) (evE cx (.bi1 .repr x)) :=
  pd_b1 (fun ta pa => pe_callB (repr_ok sk hr ga) hg hm repr_boot pa (by decide +kernel) (by decide +kernel) (star_one hs _ _) rfl) hs ha
theorem pd_dct {pos : Pos} : PD X xr W (.Dict [] [] pos) (evE cx (.dct [])) := ⟨_, pe_dnewK, fun F H O σ ρ Q S w => by
  simp only [evE] at w
  exact fun p hp => (NewR.dK hp .nil .nil).done S .refl (.refl _) w⟩
theorem pd_glo {n : String} {y : Str} {v : V} {u : Value} {d : D} {p : Pos} (hg : Gl X y) (hm : X.mg y = some u) (r : RelV v u) (hd : (y == ("__debug__" : Str)) = false) (h : ∀ F H, Dat X.K F H v d) : PD X xr W (.Name y p) (evE cx (.glo n d)) := pd_c (pe_glob hg hm r hd) h fun ρ => by simp only [evE]
end
end MI
namespace MI
open PySem PySem.Spec PyProof.Rows L2
variable {K : PySem.W.Frag} {F F' : Fz} {H H' : Hp} {O O' : Fz} {σ σ' : L2.St} {ρ ρ' : Env} {xr : XRep} {W : WX}
section
variable {X : Cx} {cx : Cxt}
/-! ### 'sep'.join(e) -/
theorem strs_ok : ∀ {xs : List D} {vs : List V} {ys : List Str}, Dats K F H vs xs → strsOf xs = some ys → vs = ys.map V.str
  | [], _, _, h, e => by cases h; cases e; rfl
  | d :: ds, _, _, h, e => by
    cases h with
    | cons a b =>
      cases d with
      | str x =>
        simp only [strsOf, Option.map_eq_some_iff] at e
        obtain ⟨zs, e1, rfl⟩ := e
        cases a
        rw [strs_ok b e1]
        rfl
      | _ => cases e
theorem pd_join {s : String} {a : Expr} {x : Ex} {j : Nat} {p apos cpos : Pos} (hl : (apos.endLine == cpos.line) = true) (hs : noStar a = true) (ha : PD X xr W a (evE cx x)) :
    PD X xr W (.Call (.Attribute (.Constant (.str (Str.ofString s)) j p) "join" apos) [a] [] cpos) (evE cx (.join s x)) := by
  obtain ⟨ta, pa, ka⟩ := ha.run
  refine ⟨_, pe_join pe_str pa (star_one hs _ _) rfl hl, fun F H O σ ρ Q S w => ?_⟩
  refine ⟨⟨_, rfl⟩, ?_⟩
  simp only [evE] at w
  refine ka F H O σ ρ _ S (WantG.seq .refl (.refl _) w fun ra ρ1 F1 H1 O1 va S1 _ t1 p1 r1 w => ?_)
  obtain ⟨res, he, w⟩ := w.lift
  simp only [joinD, Option.bind_eq_some_iff] at he
  obtain ⟨d, hd, xs, h1, ys, h2, hg⟩ := he
  obtain ⟨h3, rfl⟩ := gd_some hg
  obtain ⟨q, vs, rfl, hq, dt⟩ := (cont_ok S1 r1 hd).seq h1
  have ev := strs_ok dt h2
  subst ev
  exact ⟨_, q, ys, rfl, rfl, hq, by simpa using h3, by rw [TL.join_eq]; exact (NewR.same (.str _)).done S1 t1 p1 w⟩
/-! ### list(range(..)) -/
theorem rg_rng (a b : Int) : Dats K F H (rgV a b) (rngD a (b - a).toNat 1) := by
  unfold rgV rngD
  generalize List.range (b - a).toNat = l
  induction l with
  | nil => exact .nil
  | cons k l ih =>
    refine .cons ?_ ih
    show Dat K F H (V.int (a + (k : Nat))) (PyData.int (a + (k : Int) * 1))
    rw [Int.mul_one]
    exact .int _
theorem prg_of1 {a : Expr} {ta : TE} {p pos : Pos} (hg : Gl X "range") (hm : X.mg "range" = none) (hs : noStar a = true) (pa : PE X a ta) : PRg X (.Call (.Name "range" p) [a] [] pos) (tRg1 ta) := prg_1 hg hm pa (star_one hs _ _)
theorem len_rng (a : Int) (n : Nat) : (rngD a n 1).length = n := by simp [rngD]
theorem lit_end {a b : Int} {items : List D} {t : Bool} {R0 : R} {F0 O0 F1 O1 : Fz} {H0 H1 : Hp} {ρ0 ρ1 : Env} {Q : VK} (S1 : StI K F1 H1 O1 σ ρ1) (t1 : Stp F0 H0 O0 F1 H1 O1) (p1 : Pin ρ0 ρ1) (e : gd (small62 a && small62 b) (rngD a (b - a).toNat 1) = some items)
    (w : WantE K xr W σ F0 H0 O0 ρ0 (if items.length ≤ Lim then .ok (if t then .val (.tuple items) else .new items) ρ1 else .no) Q) :
    RgOk a b ∧ ∀ q, H1 q = none → Q (.ref q) (upd H1 q (if t then .tup (rgV a b) else .lst (rgV a b))) := by
  obtain ⟨h1, rfl⟩ := gd_some e
  rw [Bool.and_eq_true] at h1
  have s1 := small62_iff h1.1
  have s2 := small62_iff h1.2
  rw [len_rng] at w
  split at w
  · rename_i hl
    refine ⟨⟨s1.1, s1.2, s2.1, s2.2, hl⟩, fun q hq => ?_⟩
    cases t with
    | true => exact (NewR.tup hq (rg_rng a b)).done S1 t1 p1 w
    | false => exact (NewR.lst hq (rg_rng a b)).done S1 t1 p1 w
  · exact w.elim
theorem pd_lit1 {a : Expr} {x : Ex} {t : Bool} {n : Str} {p p2 pos pos2 : Pos} (hc : X.calm = true) (hn : n = if t then "tuple" else "list") (hg : Gl X n) (hm : X.mg n = none) (hg2 : Gl X "range") (hm2 : X.mg "range" = none) (hs : noStar a = true) (ha : PD X xr W a (evE cx x)) :
    PD X xr W (.Call (.Name n p) [.Call (.Name "range" p2) [a] [] pos2] [] pos) (evE cx (.lit (.rng [x]) t)) := by
  obtain ⟨ta, pa, ka⟩ := ha.frz.run
  have pr := prg_of1 (p := p2) (pos := pos2) hg2 hm2 hs pa
  have run : ∀ F H O σ ρ Q, StI X.K F H O σ ρ → WantE X.K xr W σ F H O ρ (evE cx (.lit (.rng [x]) t) ρ) Q → ta σ H fun y H1 => ∃ n, y = .int n ∧ (RgOk 0 n ∧ ∀ q, H1 q = none → Q (.ref q) (upd H1 q (if t then .tup (rgV 0 n) else .lst (rgV 0 n)))) := by
    intro F H O σ ρ Q S w
    simp only [evE, evI, evDs] at w
    rw [bindA, bindA] at w
    refine ka F H O σ ρ _ S (WantG.seq .refl (.refl _) w fun d ρ1 F1 H1 O1 v S1 _ t1 p1 r1 w => ?_)
    simp only [Out.bind] at w
    cases d with
    | int n =>
      cases r1
      have e0 : rngOf [.int n] = gd (small62 0 && small62 n) (rngD 0 (n - 0).toNat 1) := by
        show gd (small62 n) (rngD 0 n.toNat 1) = _
        rw [show small62 0 = true from rfl, Bool.true_and, Int.sub_zero]
      rw [e0] at w
      cases e : gd (small62 0 && small62 n) (rngD 0 (n - 0).toNat 1) with
      | none => rw [e] at w; exact w.elim
      | some items =>
        rw [e] at w
        exact ⟨n, rfl, lit_end (R0 := .new []) (t := t) S1 t1 p1 e w⟩
    | _ => exact w.elim
  cases t with
  | true =>
    subst hn
    exact ⟨_, pe_tupRg hc hg hm pr (star_one rfl _ _), fun F H O σ ρ Q S w => run F H O σ ρ Q S w⟩
  | false =>
    subst hn
    exact ⟨_, pe_listRg hc hg hm pr (star_one rfl _ _), fun F H O σ ρ Q S w => run F H O σ ρ Q S w⟩
/-! ### a in range(..) -/
theorem cr_range1 : CallR X (.type "range") (fun vs H Q => ∃ j, vs = [V.int j] ∧ ∀ p, H p = none → Q (.ref p) (upd H p (.rng 0 j))) := by
  intro pins s σ H vs us Q I r h
  obtain ⟨j, rfl, q⟩ := h
  cases r with
  | cons r1 r2 =>
    cases r2
    obtain ⟨t, rfl⟩ := r1
    refine call_range_1 ⟨.ref s.heap.objs.size, upd H s.heap.objs.size (.rng 0 j), I.laid (t' := s.toks + 2) (fun b o e => Heap.get?_push_of_some _ e) (Nat.le_refl _) ?_, rfl, q _ (I.hok.fresh (Nat.le_refl _))⟩
    exact ⟨_, _, _, Heap.get?_push_size _ rfl⟩
theorem op_notin_rng : OpR X (compareOp .NotIn) (fun x y H Q => ∃ i a lo hi, x = V.int i ∧ y = V.ref a ∧ H a = some (.rng lo hi) ∧ Q (.bl (!decide (lo ≤ i ∧ i < hi))) H) := by
  intro pins s σ H x y v u Q I rx ry h
  obtain ⟨i, a, lo, hi, rfl, rfl, ha, q⟩ := h
  obtain ⟨k, rfl⟩ := rx
  obtain rfl : u = Value.ref a := ry
  obtain ⟨t1, t2, t3, ho⟩ := I.hok a _ ha
  show wpAny _ _ (do return Value.bool (!(← contains (Value.ref a) (Value.int i k)))) _ _ s
  refine wpAny_bind (wpAny_contains_slot (T := "range") ⟨_, ho, rfl⟩ F.slot_range_contains (call_meets F.slot_range_contains ⟨_, ho, rfl⟩ F.entry_range_contains (F.args_range_contains_2 _ _) (q_contains a lo hi i t1 t2 t3 k)
    ⟨ho, wpAny_truthy_bool (wpAny_pure ⟨.bl _, H, I, rfl, ?_⟩)⟩))
  rw [place1]
  exact q
def inOp (neg : Bool) : CmpOp := if neg then .NotIn else .In
theorem op_inr (neg : Bool) : OpR X (compareOp (inOp neg)) (fun x y H Q => ∃ i a lo hi, x = V.int i ∧ y = V.ref a ∧ H a = some (.rng lo hi) ∧ Q (.bl (neg != decide (lo ≤ i ∧ i < hi))) H) := by
  cases neg with
  | true => exact opR_imp op_notin_rng fun x y H Q ⟨i, a, lo, hi, h1, h2, h3, q⟩ => ⟨i, a, lo, hi, h1, h2, h3, by simpa using q⟩
  | false => exact opR_imp op_in_rng fun x y H Q ⟨i, a, lo, hi, h1, h2, h3, q⟩ => ⟨i, a, lo, hi, h1, h2, h3, by simpa using q⟩
theorem range_boot : bootBuiltins ("range" : Str) = some (.type "range") := by decide +kernel
theorem pd_inr1 {neg : Bool} {a b : Expr} {x y : Ex} {p pos pos2 : Pos} (hm : behindInMarks (inOp neg) (.Call (.Name "range" p) [b] [] pos2) = false) (hg : Gl X "range") (hmg : X.mg "range" = none) (hs : noStar b = true) (ha : PD X xr W a (evE cx x)) (hb : PD X xr W b (evE cx y)) :
    PD X xr W (.Compare a [inOp neg] [.Call (.Name "range" p) [b] [] pos2] pos) (evE cx (.inr neg x [y])) := by
  obtain ⟨ta, pa, ka⟩ := ha.run
  obtain ⟨tb, pb, kb⟩ := hb.frz.run
  refine ⟨_, pe_cmpR (op_inr neg) pa (pe_callTy cr_range1 hg hmg range_boot (pa_cons pb pa_nil (star_one hs _ _)) (by decide) (by decide) (star_one hs _ _) rfl) hm, fun F H O σ ρ Q S w => ?_⟩
  simp only [evE, evDs] at w
  refine ka F H O σ ρ _ S (WantG.seq .refl (.refl _) w fun ra ρ1 F1 H1 O1 va S1 _ t1 p1 r1 w => ?_)
  rw [bindA] at w
  refine kb F1 H1 O1 σ ρ1 _ S1 (WantG.seq t1 p1 w fun d ρ2 F2 H2 O2 vb S2 t12 t2 p2 r2 w => ?_)
  simp only [Out.bind] at w
  obtain ⟨res, he, w⟩ := w.lift
  simp only [Option.bind_eq_some_iff] at he
  obtain ⟨dx, hx, hg⟩ := he
  have hx' := cont_ok S2 (r1.stp S1 t12) hx
  cases dx with
  | int i =>
    cases d with
    | int n =>
      cases hg
      cases r2
      cases hx'.int
      exact ⟨n, rfl, fun q hq => ⟨i, q, 0, n, rfl, rfl, upd_same, w _ _ _ _ (S2.laid hq) (t2.trans (stp_laid hq)) p2 (.bl _)⟩⟩
    | _ => cases hg
  | _ => cases hg
theorem pd_inr2 {neg : Bool} {a b c : Expr} {x y z : Ex} {p pos pos2 : Pos} (hm : behindInMarks (inOp neg) (.Call (.Name "range" p) [b, c] [] pos2) = false) (hg : Gl X "range") (hmg : X.mg "range" = none) (hs : noStar b = true) (hs2 : noStar c = true) (ha : PD X xr W a (evE cx x)) (hb : PD X xr W b (evE cx y)) (hc : PD X xr W c (evE cx z)) :
    PD X xr W (.Compare a [inOp neg] [.Call (.Name "range" p) [b, c] [] pos2] pos) (evE cx (.inr neg x [y, z])) := by
  obtain ⟨ta, pa, ka⟩ := ha.run
  obtain ⟨tb, pb, kb⟩ := hb.frz.run
  obtain ⟨tc, pc, kc⟩ := hc.frz.run
  refine ⟨_, pe_cmpR (op_inr neg) pa (pe_callTy cr_range2 hg hmg range_boot (pa_cons pb (pa_cons pc pa_nil (star_one hs2 _ _)) (star_one hs _ _)) (by decide) (by decide) (star_one hs _ _) (star_no (by simp [hs2]) _ _)) hm, fun F H O σ ρ Q S w => ?_⟩
  simp only [evE, evDs] at w
  refine ka F H O σ ρ _ S (WantG.seq .refl (.refl _) w fun ra ρ1 F1 H1 O1 va S1 _ t1 p1 r1 w => ?_)
  rw [bindA] at w
  refine kb F1 H1 O1 σ ρ1 _ S1 (WantG.seq t1 p1 w fun d ρ2 F2 H2 O2 vb S2 t12 t2 p2 r2 w => ?_)
  rw [bindA, bindA] at w
  refine kc F2 H2 O2 σ ρ2 _ S2 (WantG.seq t2 p2 w fun d3 ρ3 F3 H3 O3 vc S3 t23 t3 p3 r3 w => ?_)
  simp only [Out.bind] at w
  obtain ⟨res, he, w⟩ := w.lift
  simp only [Option.bind_eq_some_iff] at he
  obtain ⟨dx, hx, hg⟩ := he
  have hx' := cont_ok S3 (r1.stp S1 (t12.trans t23)) hx
  have r2' := Dat.ext (S2.ext t23) r2
  cases dx with
  | int i =>
    cases d with
    | int n =>
      cases d3 with
      | int m =>
        cases hg
        cases r2'
        cases r3
        cases hx'.int
        exact ⟨n, m, rfl, fun q hq => ⟨i, q, n, m, rfl, rfl, upd_same, w _ _ _ _ (S3.laid hq) (t3.trans (stp_laid hq)) p3 (.bl _)⟩⟩
      | _ => cases hg
    | _ => cases hg
  | _ => cases hg
/-! .. as a condition -/
theorem inr_end {neg : Bool} {i lo hi : Int} {F0 O0 F2 O2 : Fz} {H0 H2 : Hp} {ρ0 ρ2 : Env} {Q : Bool → Hp → Prop} (S : StI K F2 H2 O2 σ ρ2) (t : Stp F0 H0 O0 F2 H2 O2) (p : Pin ρ0 ρ2) (w : WantB K xr W σ F0 H0 O0 ρ0 (.ok (neg != decide (lo ≤ i ∧ i < hi)) ρ2) Q) :
    ∀ q, H2 q = none → ∃ i' a lo' hi', V.int i = V.int i' ∧ V.ref q = V.ref a ∧ (upd H2 q (.rng lo hi)) a = some (.rng lo' hi') ∧ ∃ c, V.bl (neg != decide (lo' ≤ i' ∧ i' < hi')) = .bl c ∧ Q c (upd H2 q (.rng lo hi)) :=
  fun q hq => ⟨i, q, lo, hi, rfl, rfl, upd_same, _, rfl, w _ _ _ _ (S.laid hq) (t.trans (stp_laid hq)) p rfl⟩
theorem pdt_inr1 {neg : Bool} {a b : Expr} {x y : Ex} {p pos pos2 : Pos} (hm : behindInMarks (inOp neg) (.Call (.Name "range" p) [b] [] pos2) = false) (hg : Gl X "range") (hmg : X.mg "range" = none) (hs : noStar b = true) (ha : PD X xr W a (evE cx x)) (hb : PD X xr W b (evE cx y)) :
    PDt X xr W (.Compare a [inOp neg] [.Call (.Name "range" p) [b] [] pos2] pos) (fun ρ => (evE cx (.inr neg x [y]) ρ).bind truthR) := by
  obtain ⟨ta, pa, ka⟩ := ha.run
  obtain ⟨tb, pb, kb⟩ := hb.frz.run
  refine ⟨_, pt_cmpR (op_inr neg) pa (pe_callTy cr_range1 hg hmg range_boot (pa_cons pb pa_nil (star_one hs _ _)) (by decide) (by decide) (star_one hs _ _) rfl) hm, fun F H O σ ρ Q S w => ?_⟩
  simp only [evE, evDs] at w
  rw [bindA] at w
  refine ka F H O σ ρ _ S (WantG.seq .refl (.refl _) w fun ra ρ1 F1 H1 O1 va S1 _ t1 p1 r1 w => ?_)
  rw [bindA, bindA] at w
  refine kb F1 H1 O1 σ ρ1 _ S1 (WantG.seq t1 p1 w fun d ρ2 F2 H2 O2 vb S2 t12 t2 p2 r2 w => ?_)
  simp only [Out.bind] at w
  cases hx : ra.cont ρ2 with
  | none => rw [hx] at w; exact w.elim
  | some dx =>
    rw [hx] at w
    have hx' := cont_ok S2 (r1.stp S1 t12) hx
    cases dx with
    | int i =>
      cases d with
      | int n =>
        cases r2
        cases hx'.int
        exact ⟨n, rfl, inr_end S2 t2 p2 w⟩
      | _ => exact w.elim
    | _ => exact w.elim
theorem pdt_inr2 {neg : Bool} {a b c : Expr} {x y z : Ex} {p pos pos2 : Pos} (hm : behindInMarks (inOp neg) (.Call (.Name "range" p) [b, c] [] pos2) = false) (hg : Gl X "range") (hmg : X.mg "range" = none) (hs : noStar b = true) (hs2 : noStar c = true) (ha : PD X xr W a (evE cx x)) (hb : PD X xr W b (evE cx y)) (hc : PD X xr W c (evE cx z)) :
    PDt X xr W (.Compare a [inOp neg] [.Call (.Name "range" p) [b, c] [] pos2] pos) (fun ρ => (evE cx (.inr neg x [y, z]) ρ).bind truthR) := by
  obtain ⟨ta, pa, ka⟩ := ha.run
  obtain ⟨tb, pb, kb⟩ := hb.frz.run
  obtain ⟨tc, pc, kc⟩ := hc.frz.run
  refine ⟨_, pt_cmpR (op_inr neg) pa (pe_callTy cr_range2 hg hmg range_boot (pa_cons pb (pa_cons pc pa_nil (star_one hs2 _ _)) (star_one hs _ _)) (by decide) (by decide) (star_one hs _ _) (star_no (by simp [hs2]) _ _)) hm, fun F H O σ ρ Q S w => ?_⟩
  simp only [evE, evDs] at w
  rw [bindA] at w
  refine ka F H O σ ρ _ S (WantG.seq .refl (.refl _) w fun ra ρ1 F1 H1 O1 va S1 _ t1 p1 r1 w => ?_)
  rw [bindA, bindA] at w
  refine kb F1 H1 O1 σ ρ1 _ S1 (WantG.seq t1 p1 w fun d ρ2 F2 H2 O2 vb S2 t12 t2 p2 r2 w => ?_)
  rw [bindA, bindA] at w
  refine kc F2 H2 O2 σ ρ2 _ S2 (WantG.seq t2 p2 w fun d3 ρ3 F3 H3 O3 vc S3 t23 t3 p3 r3 w => ?_)
  simp only [Out.bind] at w
  cases hx : ra.cont ρ3 with
  | none => rw [hx] at w; exact w.elim
  | some dx =>
    rw [hx] at w
    have hx' := cont_ok S3 (r1.stp S1 (t12.trans t23)) hx
    have r2' := Dat.ext (S2.ext t23) r2
    cases dx with
    | int i =>
      cases d with
      | int n =>
        cases d3 with
        | int m =>
          cases r2'
          cases r3
          cases hx'.int
          exact ⟨n, m, rfl, inr_end S3 t3 p3 w⟩
        | _ => exact w.elim
      | _ => exact w.elim
    | _ => exact w.elim
/-! ### sorted(set(e)), e a list of pairs -/
theorem insI_mem {x y : Int} : ∀ {l : List Int}, y ∈ insI x l ↔ y = x ∨ y ∈ l
  | [] => by simp [insI]
  | z :: l => by
    simp only [insI]
    split
    · simp
    · split
      · rename_i h; subst h; simp
      · simp [insI_mem (l := l)]
        constructor
        · rintro (h | h | h)
          · exact .inr (.inl h)
          · exact .inl h
          · exact .inr (.inr h)
        · rintro (h | h | h)
          · exact .inr (.inl h)
          · exact .inl h
          · exact .inr (.inr h)
theorem insI_lt {x : Int} : ∀ {l : List Int}, l.Pairwise (· < ·) → (insI x l).Pairwise (· < ·)
  | [], _ => by simp [insI]
  | z :: l, h => by
    have h' := List.pairwise_cons.mp h
    simp only [insI]
    split
    · rename_i q
      refine List.pairwise_cons.mpr ⟨fun y hy => ?_, h⟩
      rcases List.mem_cons.mp hy with rfl | hy
      · exact q
      · exact Int.lt_trans q (h'.1 y hy)
    · split
      · exact h
      · rename_i q1 q2
        refine List.pairwise_cons.mpr ⟨fun y hy => ?_, insI_lt h'.2⟩
        rcases insI_mem.mp hy with rfl | hy
        · omega
        · exact h'.1 y hy
theorem ssetI_mem {y : Int} : ∀ {l : List Int}, y ∈ ssetI l ↔ y ∈ l
  | [] => by simp [ssetI]
  | x :: l => by
    show y ∈ insI x (ssetI l) ↔ _
    rw [insI_mem, ssetI_mem (l := l), List.mem_cons]
theorem ssetI_lt : ∀ l : List Int, (ssetI l).Pairwise (· < ·)
  | [] => .nil
  | x :: l => insI_lt (ssetI_lt l)
theorem sorted_eq : ∀ {l m : List Int}, l.Pairwise (· < ·) → m.Pairwise (· < ·) → (∀ y, y ∈ l ↔ y ∈ m) → l = m
  | [], [], _, _, _ => rfl
  | [], y :: m, _, _, h => by have := (h y).mpr List.mem_cons_self; cases this
  | x :: l, [], _, _, h => by have := (h x).mp List.mem_cons_self; cases this
  | x :: l, y :: m, h1, h2, h => by
    have a := List.pairwise_cons.mp h1
    have b := List.pairwise_cons.mp h2
    have e : x = y := by
      rcases List.mem_cons.mp ((h x).mp List.mem_cons_self) with q | q
      · exact q
      · rcases List.mem_cons.mp ((h y).mpr List.mem_cons_self) with r | r
        · exact r.symm
        · have := b.1 x q
          have := a.1 y r
          omega
    subst e
    rw [sorted_eq a.2 b.2 fun z => ?_]
    constructor
    · intro hz
      rcases List.mem_cons.mp ((h z).mp (List.mem_cons_of_mem _ hz)) with q | q
      · have := a.1 z hz
        omega
      · exact q
    · intro hz
      rcases List.mem_cons.mp ((h z).mpr (List.mem_cons_of_mem _ hz)) with q | q
      · have := b.1 z hz
        omega
      · exact q
/-- the pairs of a list, with their places -/
theorem pairs_ok : ∀ {xs : List D} {vs : List V} {ps : List (Int × Int)}, Dats K F H vs xs → pairsOf xs = some ps →
    ∃ ks : List (Addr × List Int), vs = ks.map (fun p => V.ref p.1) ∧ ks.map (·.2) = ps.map (fun p => [p.1, p.2]) ∧ ∀ q ∈ ks, ∃ x y, q.2 = [x, y] ∧ (x, y) ∈ ps ∧ Dat K F H (.ref q.1) (.tuple [.int x, .int y])
  | [], _, _, h, e => by cases h; cases e; exact ⟨[], rfl, rfl, fun q hq => by cases hq⟩
  | d :: ds, _, _, h, e => by
    cases h with
    | @cons v vs _ _ a b =>
      unfold pairsOf at e
      split at e
      · rename_i hd; cases hd
      · rename_i x y r hd
        cases hd
        simp only [Option.map_eq_some_iff] at e
        obtain ⟨ps, e1, rfl⟩ := e
        obtain ⟨ks, rfl, e2, e3⟩ := pairs_ok b e1
        obtain ⟨l, ws, rfl, _, _⟩ := Dat1.tup (.sh a)
        refine ⟨(l, [x, y]) :: ks, rfl, by simp [e2], fun q hq => ?_⟩
        rcases List.mem_cons.mp hq with rfl | hq
        · exact ⟨x, y, rfl, List.mem_cons_self, a⟩
        · obtain ⟨x', y', h1, h2, h3⟩ := e3 q hq
          exact ⟨x', y', h1, List.mem_cons_of_mem _ h2, h3⟩
      · cases e
theorem ints_V {vs : List V} {x y : Int} (h : Dats K F H vs [.int x, .int y]) : vs = [x, y].map V.int := by
  cases h with
  | cons a b =>
    cases b with
    | cons c d =>
      cases d
      cases a
      cases c
      rfl
theorem pair_sq {q : Addr × List Int} {x y : Int} (e : q.2 = [x, y]) (h : Dat K F H (.ref q.1) (.tuple [.int x, .int y])) : SqT K H q.1 (q.2.map V.int) := by
  obtain ⟨a, vs, ea, hs, hd⟩ := Dat1.tup (.sh h)
  cases ea
  rw [e, ← ints_V hd]
  exact hs
/-- set(xs), xs a tuple of ints -/
def rSetTI (K : PySem.W.Frag) (w : World) : List V → Hp → VK → Prop := fun xs H Q => ∃ (p : Addr) (ns : List Int), xs = [V.ref p] ∧ SqT K H p (ns.map V.int) ∧ ns.length < 64 ∧
  ∀ (a : Addr) (S : Int → Bool) (c : Nat), (∀ j, S j = true ↔ j ∈ ns) → c ≤ ns.length → H a = none → Q (.ref a) (upd H a (SetO w a S c))
theorem cr_setTI {X : Cx} (hc : X.calm = true) : CallR X (.type "set") (rSetTI X.K X.w) := by
  intro pins s σ H xs us Q I r h
  obtain ⟨p, ns, rfl, hq, hl, q⟩ := h
  rw [Vals.ref1 r]
  obtain ⟨its, rv, pt, hz⟩ := I.tuple hq
  refine call_set_tupI ns (I.ok.hd hc) (show s.heap.IsTuple p its.toArray from pt) (by simpa using ints_of_vals rv) (by unfold scanBound; omega) fun h' tk c R hcn k => ?_
  exact ⟨.ref s.heap.objs.size, upd H s.heap.objs.size (SetO X.w s.heap.objs.size (fun j => decide (j ∈ ns)) c), I.laid (t' := tk) k (Nat.le_refl _) (setO_new R), rfl, q _ _ _ (fun j => by simp) hcn (I.hok.fresh (Nat.le_refl _))⟩
theorem cr_or {X : Cx} {f : Value} {r1 r2 : List V → Hp → VK → Prop} (h1 : CallR X f r1) (h2 : CallR X f r2) : CallR X f (fun xs H Q => r1 xs H Q ∨ r2 xs H Q) := by
  intro pins s σ H xs us Q I r h
  rcases h with h | h
  · exact h1 pins s σ H xs us Q I r h
  · exact h2 pins s σ H xs us Q I r h
theorem intsOf_V : ∀ {xs : List D} {vs : List V} {ns : List Int}, Dats K F H vs xs → intsOf xs = some ns → vs = ns.map V.int
  | [], _, _, h, e => by cases h; cases e; rfl
  | d :: ds, _, _, h, e => by
    cases h with
    | @cons v vs _ _ a b =>
      cases d with
      | int i =>
        simp only [intsOf, Option.map_eq_some_iff] at e
        obtain ⟨ns, e1, rfl⟩ := e
        rw [intsOf_V b e1]
        cases a
        rfl
      | _ => cases e
theorem dats_ints (ns : List Int) : Dats K F H (ns.map V.int) (ns.map PyData.int) := by
  induction ns with
  | nil => exact .nil
  | cons n ns ih => exact .cons (.int n) ih
/-! ### a, b = e, f -/
def isNew : R → Bool
  | .new _ => true
  | .newd _ => true
  | _ => false
theorem still_ok {H0 : Hp} {v : V} {r r2 : R} (S : StI K F H O σ ρ) (h : RepR K H0 F H O σ v r) (e : R.still r ρ = .ok r2 ρ') :
    ∃ F' O', StI K F' H O' σ ρ' ∧ RepR K H0 F' H O' σ v r2 ∧ Pin ρ ρ' ∧ (∀ a, F a → F' a) ∧ (∀ a, F' a → F a ∨ H0 a = none ∨ O a) ∧ (∀ a, O' a → O a) := by
  cases r with
  | own i =>
    obtain ⟨d, ρ1, e1, e2⟩ := out_bind (show ((MI.frz (.own i) ρ).bind fun d ρ => (.ok (.val d) ρ : Out R)) = .ok r2 ρ' from e)
    cases e2
    obtain ⟨F1, O1, z⟩ := frz_ok S h e1
    exact ⟨F1, O1, z.st, z.dat, z.pin, z.fz, z.fz', z.ow⟩
  | _ =>
    cases e
    exact ⟨F, O, S, h, .refl _, fun _ h => h, fun _ h => .inl h, fun _ h => h⟩
theorem still_ex {r : R} {z : Xn} (e : R.still r ρ = .ex z ρ') : False := by
  cases r with
  | own i =>
    have e : ((MI.frz (.own i) ρ).bind fun d ρ => (.ok (.val d) ρ : Out R)) = .ex z ρ' := e
    cases q : MI.frz (.own i) ρ with
    | ok d ρ1 => rw [q] at e; cases e
    | ex y ρ1 => exact frz_ex q
    | no => rw [q] at e; cases e
  | _ => cases e
theorem setR_ok {H0 : Hp} {i : Nat} {v : V} {r : R} (S : StI K F H O σ ρ) (h : RepR K H0 F H O σ v r) (e : setR i r ρ = .ok () ρ') :
    ∃ O', StI K F H O' (σ.set i (some v)) ρ' ∧ PinS σ ρ (σ.set i (some v)) ρ' ∧ (∀ a, O' a → O a ∨ (v = .ref a ∧ H0 a = none ∧ H a ≠ none ∧ isNew r = true)) := by
  unfold setR at e
  split at e
  · rename_i hf
    cases r with
    | val d =>
      cases e
      exact ⟨O, S.store hf (show RepM K F H O v (.sh d) from h) fun z => (by cases z), pins_set hf, fun _ h => .inl h⟩
    | new xs =>
      cases e
      obtain ⟨a, vs, rfl, nf, no, h0, ha, hd⟩ := h
      have x : ∀ b, (O b ∨ b = a) → H b ≠ none ∧ ¬ F b := fun b hb => by
        rcases hb with hb | rfl
        · exact S.odom b hb
        · exact ⟨by rw [ha]; simp, nf⟩
      have S1 : StI K F H (fun b => O b ∨ b = a) σ ρ := by
        refine ⟨S.len, fun j m ej => ?_, S.dom, x, S.sep⟩
        obtain ⟨u, g1, g2⟩ := S.var j m ej
        exact ⟨u, g1, g2.mono (fun _ h => h) fun b _ _ ob => .inl ob⟩
      refine ⟨_, S1.store hf (show RepM K F H (fun b => O b ∨ b = a) (.ref a) (.ol false xs) from ⟨a, vs, rfl, .inr rfl, ha, hd⟩) fun _ j m' nj ej oj ej2 => ?_, pins_set hf, fun b hb => ?_⟩
      · obtain ⟨u, g1, g2⟩ := S.var j m' ej
        rw [ej2] at g1
        cases g1
        obtain ⟨b, eb, ob⟩ := g2.own oj
        cases eb
        exact no ob
      · rcases hb with hb | rfl
        · exact .inl hb
        · exact .inr ⟨rfl, h0, by rw [ha]; simp, rfl⟩
    | newd xs =>
      cases e
      obtain ⟨a, vs, rfl, nf, no, h0, ha, hd, hd2⟩ := h
      have x : ∀ b, (O b ∨ b = a) → H b ≠ none ∧ ¬ F b := fun b hb => by
        rcases hb with hb | rfl
        · exact S.odom b hb
        · exact ⟨by rw [ha]; simp, nf⟩
      have S1 : StI K F H (fun b => O b ∨ b = a) σ ρ := by
        refine ⟨S.len, fun j m ej => ?_, S.dom, x, S.sep⟩
        obtain ⟨u, g1, g2⟩ := S.var j m ej
        exact ⟨u, g1, g2.mono (fun _ h => h) fun b _ _ ob => .inl ob⟩
      refine ⟨_, S1.store hf (show RepM K F H (fun b => O b ∨ b = a) (.ref a) (.od false xs) from ⟨a, vs, rfl, .inr rfl, ha, hd, hd2⟩) fun _ j m' nj ej oj ej2 => ?_, pins_set hf, fun b hb => ?_⟩
      · obtain ⟨u, g1, g2⟩ := S.var j m' ej
        rw [ej2] at g1
        cases g1
        obtain ⟨b, eb, ob⟩ := g2.own oj
        cases eb
        exact no ob
      · rcases hb with hb | rfl
        · exact .inl hb
        · exact .inr ⟨rfl, h0, by rw [ha]; simp, rfl⟩
    | ob C fs => exact h.elim
    | own j => cases e
    | sc ns => cases e
  · cases e
theorem setR_ex {i : Nat} {r : R} {z : Xn} (e : setR i r ρ = .ex z ρ') : False := by
  unfold setR at e
  split at e
  · cases r <;> cases e
  · cases e
/-- .. the other value is untouched -/
theorem RepR.over {H0 : Hp} {v : V} {r : R} {σ2 : L2.St} (ho : ∀ i, r ≠ .own i) (h : RepR K H0 F H O σ v r) (n : ∀ a, O' a → O a ∨ H0 a ≠ none) : RepR K H0 F H O' σ2 v r := by
  cases r with
  | val d => exact h
  | new xs =>
    obtain ⟨a, vs, e, nf, no, h0, ha, hd⟩ := h
    exact ⟨a, vs, e, nf, fun q => by rcases n a q with q | q; exact no q; exact q h0, h0, ha, hd⟩
  | newd xs =>
    obtain ⟨a, vs, e, nf, no, h0, ha, hd⟩ := h
    exact ⟨a, vs, e, nf, fun q => by rcases n a q with q | q; exact no q; exact q h0, h0, ha, hd⟩
  | own i => exact absurd rfl (ho i)
  | ob C fs => exact h
  | sc ns => exact h
theorem still_own {r r2 : R} (e : R.still r ρ = .ok r2 ρ') : ∀ i, r2 ≠ .own i := by
  intro i z
  subst z
  cases r with
  | own j =>
    obtain ⟨d, ρ1, e1, e2⟩ := out_bind (show ((MI.frz (.own j) ρ).bind fun d ρ => (.ok (.val d) ρ : Out R)) = .ok (.own i) ρ' from e)
    cases e2
  | _ => cases e
theorem pds_par {i j : Nat} {x y : Str} {a b : Expr} {xa xb : Ex} {px py pt pos : Pos} {kt k2 pt2} (hc : X.calm = true) (hN : X.N.Nodup) (hi : X.N[i]? = some x) (hj : X.N[j]? = some y)
    (hx : X.env.scope.names.lookup x = some .local) (hy : X.env.scope.names.lookup y = some .local) (hs1 : noStar a = true) (hs2 : noStar b = true)
    (hw : swappedStores [.Tuple [.Name x px, .Name y py] kt pt] (.Tuple [a, b] k2 pt2) X.env = pure (some [x, y])) (ha : PD X xr W a (evE cx xa)) (hb : PD X xr W b (evE cx xb)) (hij : i ≠ j) :
    PDst X xr W (.Assign [.Tuple [.Name x px, .Name y py] kt pt] (.Tuple [a, b] k2 pt2) pos) (evS cx (.par i j xa xb)) := by
  obtain ⟨ta, pa, ka⟩ := ha.run
  obtain ⟨tb, pb, kb⟩ := hb.run
  refine ⟨_, ps_par hc hN hi hj hij hx hy (pa_cons pa (pa_cons pb pa_nil (star_one hs2 _ _)) (star_one hs1 _ _)) hw rfl, fun F H O σ ρ D S w => ?_⟩
  simp only [evS] at w
  rw [bindA] at w
  refine ka F H O σ ρ _ S (WantS.seq .refl (.refl _ _) w fun r ρ1 F1 H1 O1 v S1 _ t1 p1 r1 w => ?_)
  cases e : R.still r ρ1 with
  | no => rw [e] at w; exact w.elim
  | ex z ρ2 => exact (still_ex e).elim
  | ok ra ρ2 =>
    rw [e] at w
    obtain ⟨F2, O2, S2, rr, p2, f1, f2, f3⟩ := still_ok S1 r1 e
    have oa := still_own e
    have t2 := stp_pass t1 f1 f2 f3
    have w' : WantS X.K xr W F H O σ ρ (((evE cx xb ρ2).bind R.still).bind fun rb ρ => if i = j then .no else (setR i ra ρ).bind fun _ ρ => (setR j rb ρ).bind fun _ ρ => .ok .next ρ) D := w
    rw [bindA] at w'
    refine kb F2 H1 O2 σ ρ2 _ S2 (WantS.seq t2 (p1.then p2) w' fun r' ρ3 F3 H3 O3 v2 S3 t23 t3 p3 r3 w => ?_)
    cases e2 : R.still r' ρ3 with
    | no => rw [e2] at w; exact w.elim
    | ex z ρ4 => exact (still_ex e2).elim
    | ok rb ρ4 =>
      rw [e2] at w
      obtain ⟨F4, O4, S4, rr2, p4, g1, g2, g3⟩ := still_ok S3 r3 e2
      have ob := still_own e2
      have t4 := stp_pass t3 g1 (fun c hc4 => by rcases g2 c hc4 with q | q | q; exact .inl q; exact .inr (.inl (t2.none q)); exact .inr (.inr q)) g3
      have t24 := stp_pass t23 g1 g2 g3
      have w' : WantS X.K xr W F H O σ ρ (if i = j then .no else (setR i ra ρ4).bind fun _ ρ => (setR j rb ρ).bind fun _ ρ => .ok .next ρ) D := w
      rw [if_neg hij] at w'
      have ra4 : RepR X.K H F4 H3 O4 σ v ra := rr.stp S2 t24
      cases e3 : setR i ra ρ4 with
      | no => rw [e3] at w'; exact w'.elim
      | ex z ρ5 => exact (setR_ex e3).elim
      | ok u ρ5 =>
        rw [e3] at w'
        obtain ⟨O5, S5, p5, q5⟩ := setR_ok S4 ra4 e3
        have na : ∀ c, v = .ref c → isNew ra = true → H1 c ≠ none := fun c ev hn => by
          cases ra with
          | new xs => obtain ⟨c', vs, ec, _, _, _, hc', _⟩ := rr; rw [ev] at ec; cases ec; rw [hc']; simp
          | newd xs => obtain ⟨c', vs, ec, _, _, _, hc', _⟩ := rr; rw [ev] at ec; cases ec; rw [hc']; simp
          | _ => cases hn
        have rb5 : RepR X.K H1 F4 H3 O5 (σ.set i (some v)) v2 rb := RepR.over ob rr2 fun c hc5 => by
          rcases q5 c hc5 with q | ⟨q, _, _, hn⟩
          · exact .inl q
          · exact .inr (na c q hn)
        have w' : WantS X.K xr W F H O σ ρ ((setR j rb ρ5).bind fun _ ρ => .ok .next ρ) D := w'
        cases e4 : setR j rb ρ5 with
        | no => rw [e4] at w'; exact w'.elim
        | ex z ρ6 => exact (setR_ex e4).elim
        | ok u ρ6 =>
          rw [e4] at w'
          obtain ⟨O6, S6, p6, q6⟩ := setR_ok S5 rb5 e4
          refine ⟨v, v2, rfl, w' F4 H3 O6 _ S6 ⟨t4.fz, t4.fz', fun c hc6 => ?_, t4.hp, t4.all⟩ (((p3.then p4).trans p5).trans p6)⟩
          rcases q6 c hc6 with q | ⟨_, q, _, _⟩
          · rcases q5 c q with q | ⟨_, q, _, _⟩
            · exact t4.ow c q
            · exact .inr q
          · exact .inr (t2.none q)
theorem sw_par {x y : Str} {a b : Expr} {px py pt : Pos} {kt k2 pt2} {env : PySem.Env} (hk : env.scope.kind = .function) (hx : env.scope.names.lookup x = some .local) (hy : env.scope.names.lookup y = some .local) (hl : (py.line == px.line) = true) (hxy : x ≠ y)
    (ha : noStar a = true) (hb : noStar b = true) (h1 : [a, b].all (foldedForSure 8) = false) (h2 : [a, b].all (constantsAlone 8) = false) : swappedStores [.Tuple [.Name x px, .Name y py] kt pt] (.Tuple [a, b] k2 pt2) env = pure (some [x, y]) := by
  have e1 : env.blockKind = .function := by
    unfold PySem.Env.blockKind
    rw [hk]
    rfl
  have e2 : env.kindOf x = some .local := hx
  have e3 : env.kindOf y = some .local := hy
  have st : ∀ e : Expr, noStar e = true → (match e with | .Starred .. => true | _ => false) = false := by
    intro e h
    cases e <;> first | rfl | (simp [noStar] at h)
  have s1 : ([a, b].any fun | .Starred .. => true | _ => false) = false := by
    simp only [List.any_cons, List.any_nil, Bool.or_false]
    rw [st a ha, st b hb]
    rfl
  unfold swappedStores
  have n1 : ([.Name x px, .Name y py] : List Expr).filterMap (fun
    | .Name id pos => if env.kindOf id == some .local && pos.line == ((([.Name x px, .Name y py] : List Expr).head?.map (·.pos.line)).getD 0) then some id else none
    | _ => none) = [x, y] := by
    have l1 : (px.line == ((([.Name x px, .Name y py] : List Expr).head?.map (·.pos.line)).getD 0)) = true := by
      show (px.line == px.line) = true
      simp
    have l2 : (py.line == ((([.Name x px, .Name y py] : List Expr).head?.map (·.pos.line)).getD 0)) = true := hl
    simp only [List.filterMap_cons, List.filterMap_nil, e2, e3, l1, l2, beq_self_eq_true, Bool.and_true, if_true]
  have n2 : ([x, y] : List Str).eraseDups = [x, y] := by
    have : (y == x) = false := beq_eq_false_iff_ne.mpr fun z => hxy z.symm
    rw [List.eraseDups_cons]
    simp [this, List.eraseDups_cons]
  generalize hf : (([.Name x px, .Name y py] : List Expr).filterMap (fun
    | .Name id pos => if env.kindOf id == some .local && pos.line == ((([.Name x px, .Name y py] : List Expr).head?.map (·.pos.line)).getD 0) then some id else none
    | _ => none)) = names at n1
  subst n1
  refine (if_neg (by rw [e1]; exact fun h => by cases h)).trans ?_
  refine (if_neg (show ¬ (([a, b].any fun | .Starred .. => true | _ => false) = true) by rw [s1]; decide)).trans ?_
  have c3 : ¬ ((([x, y] : List Str).length != 2 || ([x, y] : List Str).eraseDups.length != ([x, y] : List Str).length) = true) := by
    rw [n2]
    exact fun h => by cases h
  rw [← hf] at c3
  refine (if_neg c3).trans ?_
  refine (if_neg (by rw [h1]; decide)).trans ?_
  refine (if_neg (by rw [h2]; decide)).trans ?_
  exact congrArg (fun l => (pure (some l) : Sem (Option (List Str)))) hf
end
end MI
namespace MI
open PySem PySem.Spec PyProof.Rows L2
/-! ### set(t), t a tuple of tuples of ints; set(xs), xs a list of ints -/
abbrev nuSet (w : World) : Obj := { cls := .type "set", dict := none, data := .set #[] 0 (.fresh 0 0 (!w.params.followText "set-order")) }
section
variable {P : Program} {w : World} {A : Around} {E : Value → Shared → Prop} {s : Shared}
theorem set_of_tt {tp : Addr} {its : Array Value} (ks : List (Addr × List Int)) {Q : Value → Shared → Prop} (noH : A.handled = none) (ht : s.heap.IsTuple tp its) (hi : its.toList = ks.map fun p => Value.ref p.1)
    (hk : ∀ p ∈ ks, IsT P w s.heap p.2 p.1) (few : ks.length < 64) (hu : A.units + 3 < cLine)
    (fin : ∀ (h2 : Heap) (tk : Nat) L es ep t, SetTR P w h2 s.heap.objs.size L es ep t → Got ks ks.length L → (∀ b o, s.heap.get? b = some o → h2.get? b = some o) → Q (.ref s.heap.objs.size) { s with heap := h2, toks := tk }) :
    wpAny (model P w) A (call (.type "set") [.ref tp]) Q E s := by
  have lk : its.size = ks.length := by
    rw [← Array.length_toList, hi, List.length_map]
  obtain ⟨c, tl, mro⟩ := F.called_set.mro
  have made := F.called_set.made
  have sub := F.called_set.sub
  apply wpAny_call
  apply codeAny_of_tree
  show wpAny _ _ (callAny (.type "set") _) _ _ _
  apply wpAny_pure
  refine ⟨Code.quiet_builtin _ (by decide +kernel), ?_⟩
  apply codeAny_builtin F.entry_type_call
  rw [Around.under_plain (weight_type_call_type "set" [.ref tp] []) rfl]
  have n1 := F.called_set.notType
  have n2 := F.called_set.canCreate
  have n3 := F.typeCall_set_1 (.ref tp)
  repeat (any_goals (first | assumption | wp_step))
  refine codeAny_mono (code_set_led1 (.ref tp) (E := E) (Q₁ := fun ob s₁ => ob = .ref s.heap.objs.size ∧ s₁ = { s with heap := s.heap.push (nuSet w) }) ⟨rfl, rfl⟩) fun r s₁ hr => ?_
  match r, hr with
  | .error e, hr => exact hr
  | .ok .next, hr => exact hr.elim
  | .ok .brk, hr => exact hr.elim
  | .ok .cont, hr => exact hr.elim
  | .ok (.ret ob), hr =>
    obtain ⟨rfl, rfl⟩ := hr
    have at0 : (s.heap.push (nuSet w)).get? s.heap.objs.size = some (nuSet w) := Heap.get?_push_size _ rfl
    have ty : Shared.TypeIs { s with heap := s.heap.push (nuSet w) } (.ref s.heap.objs.size) "set" := ⟨_, at0, rfl⟩
    have i1 := F.called_set.init.lookup
    have i2 := F.called_set.init.bind (.ref s.heap.objs.size)
    repeat (any_goals (first | assumption | wp_step))
    refine codeAny_mono (codeAny_call_builtin (R := wants (fun r s₂ => r = .none ∧ ∃ h2 tk L es ep t, s₂ = { s with heap := h2, toks := tk } ∧ SetTR P w h2 s.heap.objs.size L es ep t ∧ Got ks ks.length L ∧ (∀ b o, s.heap.get? b = some o → h2.get? b = some o)) E) F.called_set.init.plain F.entry_set_init (check_set_init_1 ty ?_)) fun r₂ s₂ hr₂ => ?_
    · obtain ⟨⟨oc, od, dt, sl⟩, ho, hc, n, hd⟩ := ht
      simp only at hc hd
      subst hc hd
      have ho2 : (s.heap.push (nuSet w)).get? tp = some { cls := .type "tuple", dict := od, data := .seq its n, slots := sl } := Heap.get?_push_of_some _ ho
      have m1 := F.sub_tuple_set
      have m2 := F.sub_tuple_frozenset
      have m3 : (Value.type "tuple" == Value.type "dict") = false := by decide
      have ht2 : (s.heap.push (nuSet w)).IsTuple tp its := ⟨_, ho2, rfl, n, rfl⟩
      unfold Builtin.«set.__init__» noKeywords Builtin.Frozenset.updateFrom
      generalize hPI : pyIter = PI
      wp_walk
      subst hPI
      apply wpAny_pyIter_tuple ht2
      apply wpAny_bind
      apply wpAny_runValue
      have tlt : tp < s.heap.objs.size := Heap.lt_size ho
      have noH3 : A.in1.in1.in1.handled = none := by simp [noH]
      have sz : (s.heap.push (nuSet w)).objs.size = s.heap.objs.size + 1 := Heap.size_push ..
      have ne : tp ≠ (s.heap.push (nuSet w)).objs.size := by rw [sz]; exact Nat.ne_of_lt (Nat.lt_succ_of_lt tlt)
      have nin : s.heap.objs.size ∉ [(s.heap.push (nuSet w)).objs.size, tp] := by
        rw [sz]
        simp only [List.mem_cons, List.not_mem_nil, or_false, not_or]
        exact ⟨Nat.ne_of_lt (Nat.lt_succ_self _), Nat.ne_of_gt tlt⟩
      have val : ∀ (i : Nat) (v : Value), its[i]? = some v → ∃ p, ks[i]? = some p ∧ v = .ref p.1 := fun i v hv => by
        have q : its.toList[i]? = some v := by rw [Array.getElem?_toList]; exact hv
        rw [hi, List.getElem?_map, Option.map_eq_some_iff] at q
        obtain ⟨p, q1, q2⟩ := q
        exact ⟨p, q1, q2.symm⟩
      have gone : ∀ b, s.heap.objs.size ≤ b → s.heap.get? b = none := fun b hb => by
        cases q : s.heap.get? b with
        | none => rfl
        | some o => exact absurd (Nat.lt_of_lt_of_le (Heap.lt_size q) hb) (Nat.lt_irrefl _)
      refine set_update_tups ((Walks.tuple noH3 _ tp ne its).toS) s.heap.objs.size nin ks lk few val s.heap hk (gone _ (Nat.le_refl _)) (fun b hb => gone b (by rw [List.mem_singleton.mp hb, sz]; exact Nat.le_succ _)) hu (its.size - 0) 0 _ (by omega) (Nat.zero_le _)
        ⟨⟨_, Heap.get?_push_size _ rfl, rfl, rfl⟩, (ht2.push _)⟩ (fun b o e => Heap.get?_push_of_some _ (Heap.get?_push_of_some _ e)) ?start ?rest
      case start =>
        have at1 : ((s.heap.push (nuSet w)).push { cls := .type "tuple_iterator", data := .fields #[.ref tp, .int 0 0] }).get? s.heap.objs.size = some (nuSet w) := Heap.get?_push_of_some _ at0
        exact ⟨[], #[], 0, _, setTR_fresh at1, Got.zero ks⟩
      case rest =>
        intro s' L es ep t mv S' G' kp
        obtain ⟨h2, g2, d2, tk2, os2⟩ := s'
        obtain rfl : g2 = s.gens := mv.gens
        obtain rfl : d2 = s.drawn := mv.drawn
        obtain rfl : os2 = s.os := mv.os
        show wpAny _ _ _ _ _ _
        apply wpAny_pure
        show wpAny _ _ (ret Value.none) _ _ _
        rw [lk] at G'
        exact wpAny_pure ⟨rfl, h2, tk2, L, es, ep, t, rfl, S', G', kp⟩
    · match r₂, hr₂ with
      | .error e, hr₂ => exact hr₂
      | .ok .next, hr₂ => exact hr₂.elim
      | .ok .brk, hr₂ => exact hr₂.elim
      | .ok .cont, hr₂ => exact hr₂.elim
      | .ok (.ret r), hr₂ =>
        obtain ⟨rfl, h2, tk, L, es, ep, t, rfl, S', G', kp⟩ := hr₂
        repeat (any_goals (first | assumption | wp_step))
        exact fin _ _ _ _ _ _ S' G' kp
theorem set_of_li {tp : Addr} {its : Array Value} (ns : List Int) {Q : Value → Shared → Prop} (noH : A.handled = none) (ht : s.heap.IsList tp its) (hi : IntsAre its.toList ns) (few : ns.length + 1 < scanBound)
    (fin : ∀ (h2 : Heap) (tk c : Nat), SetR w h2 s.heap.objs.size (fun j => decide (j ∈ ns)) c → c ≤ ns.length → (∀ b o, s.heap.get? b = some o → h2.get? b = some o) → Q (.ref s.heap.objs.size) { s with heap := h2, toks := tk }) :
    wpAny (model P w) A (call (.type "set") [.ref tp]) Q E s := by
  have lk : its.size = ns.length := by
    rw [← Array.length_toList]
    exact IntsAre.length hi
  obtain ⟨c, tl, mro⟩ := F.called_set.mro
  have made := F.called_set.made
  have sub := F.called_set.sub
  apply wpAny_call
  apply codeAny_of_tree
  show wpAny _ _ (callAny (.type "set") _) _ _ _
  apply wpAny_pure
  refine ⟨Code.quiet_builtin _ (by decide +kernel), ?_⟩
  apply codeAny_builtin F.entry_type_call
  rw [Around.under_plain (weight_type_call_type "set" [.ref tp] []) rfl]
  have n1 := F.called_set.notType
  have n2 := F.called_set.canCreate
  have n3 := F.typeCall_set_1 (.ref tp)
  repeat (any_goals (first | assumption | wp_step))
  refine codeAny_mono (code_set_led1 (.ref tp) (E := E) (Q₁ := fun ob s₁ => ob = .ref s.heap.objs.size ∧ s₁ = { s with heap := s.heap.push (nuSet w) }) ⟨rfl, rfl⟩) fun r s₁ hr => ?_
  match r, hr with
  | .error e, hr => exact hr
  | .ok .next, hr => exact hr.elim
  | .ok .brk, hr => exact hr.elim
  | .ok .cont, hr => exact hr.elim
  | .ok (.ret ob), hr =>
    obtain ⟨rfl, rfl⟩ := hr
    have at0 : (s.heap.push (nuSet w)).get? s.heap.objs.size = some (nuSet w) := Heap.get?_push_size _ rfl
    have ty : Shared.TypeIs { s with heap := s.heap.push (nuSet w) } (.ref s.heap.objs.size) "set" := ⟨_, at0, rfl⟩
    have i1 := F.called_set.init.lookup
    have i2 := F.called_set.init.bind (.ref s.heap.objs.size)
    repeat (any_goals (first | assumption | wp_step))
    refine codeAny_mono (codeAny_call_builtin (R := wants (fun r s₂ => r = .none ∧ ∃ h2 tk c, s₂ = { s with heap := h2, toks := tk } ∧ SetR w h2 s.heap.objs.size (fun j => decide (j ∈ ns)) c ∧ c ≤ ns.length ∧ (∀ b o, s.heap.get? b = some o → h2.get? b = some o)) E) F.called_set.init.plain F.entry_set_init (check_set_init_1 ty ?_)) fun r₂ s₂ hr₂ => ?_
    · obtain ⟨⟨oc, od, dt, sl⟩, ho, hc, n, hd⟩ := ht
      simp only at hc hd
      subst hc hd
      have ho2 : (s.heap.push (nuSet w)).get? tp = some { cls := .type "list", dict := od, data := .seq its n, slots := sl } := Heap.get?_push_of_some _ ho
      have m1 := F.sub_list_set
      have m2 := F.sub_list_frozenset
      have m3 : (Value.type "list" == Value.type "dict") = false := by decide
      have ht2 : (s.heap.push (nuSet w)).IsList tp its := ⟨_, ho2, rfl, n, rfl⟩
      unfold Builtin.«set.__init__» noKeywords Builtin.Frozenset.updateFrom
      generalize hPI : pyIter = PI
      wp_walk
      subst hPI
      apply wpAny_pyIter_list ht2
      apply wpAny_bind
      apply wpAny_runValue
      have tlt : tp < s.heap.objs.size := Heap.lt_size ho
      have noH3 : A.in1.in1.in1.handled = none := by simp [noH]
      have sz : (s.heap.push (nuSet w)).objs.size = s.heap.objs.size + 1 := Heap.size_push ..
      have ne : tp ≠ (s.heap.push (nuSet w)).objs.size := by rw [sz]; exact Nat.ne_of_lt (Nat.lt_succ_of_lt tlt)
      have nin : s.heap.objs.size ∉ [(s.heap.push (nuSet w)).objs.size, tp] := by
        rw [sz]
        simp only [List.mem_cons, List.not_mem_nil, or_false, not_or]
        exact ⟨Nat.ne_of_lt (Nat.lt_succ_self _), Nat.ne_of_gt tlt⟩
      have val : ∀ (i : Nat) (v : Value), its[i]? = some v → ∃ k t, ns[i]? = some k ∧ v = .int k t := fun i v hv => by
        have hlt : i < ns.length := by rw [← lk]; exact (Array.getElem?_eq_some_iff.mp hv).1
        obtain ⟨t, e⟩ := PyProof.Rows.IntsAre.int_at hi i v (by rw [Array.getElem?_toList]; exact hv)
        refine ⟨ns[i], t, List.getElem?_eq_getElem hlt, ?_⟩
        rw [e, List.getD_eq_getElem?_getD, List.getElem?_eq_getElem hlt]
        rfl
      refine set_update_ints ((Walks.list noH3 _ tp ne its).toS) s.heap.objs.size nin ns lk few val (its.size - 0) 0 _ (by omega) (Nat.zero_le _) ⟨⟨_, Heap.get?_push_size _ rfl, rfl, rfl⟩, (ht2.push _)⟩ ?start ?rest
      case start =>
        have at1 : ((s.heap.push (nuSet w)).push { cls := .type "list_iterator", data := .fields #[.ref tp, .int 0 0] }).get? s.heap.objs.size = some (nuSet w) := Heap.get?_push_of_some _ at0
        exact ⟨0, Nat.le_refl 0, setR_new_at at1⟩
      case rest =>
        intro s' c2 mv hc2 S'
        obtain ⟨h2, g2, d2, tk2, os2⟩ := s'
        obtain rfl : g2 = s.gens := mv.gens
        obtain rfl : d2 = s.drawn := mv.drawn
        obtain rfl : os2 = s.os := mv.os
        show wpAny _ _ _ _ _ _
        apply wpAny_pure
        show wpAny _ _ (ret Value.none) _ _ _
        rw [lk] at hc2
        refine wpAny_pure ⟨rfl, h2, tk2, c2, rfl, S', hc2, fun b o e => ?_⟩
        have b0 : b < s.heap.objs.size := Heap.lt_size e
        have b1 : b ≠ s.heap.objs.size := Nat.ne_of_lt b0
        have b2 : b ≠ (s.heap.push (nuSet w)).objs.size := by rw [sz]; exact Nat.ne_of_lt (Nat.lt_succ_of_lt b0)
        refine (mv.heap b o ?_ (Heap.get?_push_of_some _ (Heap.get?_push_of_some _ e)))
        simp only [List.mem_cons, List.not_mem_nil, or_false, not_or]
        exact ⟨b1, b2⟩
    · match r₂, hr₂ with
      | .error e, hr₂ => exact hr₂
      | .ok .next, hr₂ => exact hr₂.elim
      | .ok .brk, hr₂ => exact hr₂.elim
      | .ok .cont, hr₂ => exact hr₂.elim
      | .ok (.ret r), hr₂ =>
        obtain ⟨rfl, h2, tk, c3, rfl, S', G', kp⟩ := hr₂
        repeat (any_goals (first | assumption | wp_step))
        exact fin _ _ _ S' G' kp
end
/-- set(t), t a tuple of tuples -/
def rSetTT (K : PySem.W.Frag) (P : Program) (w : World) : List V → Hp → VK → Prop := fun xs H Q => ∃ (tp : Addr) (ks : List (Addr × List Int)), xs = [V.ref tp] ∧ SqT K H tp (ks.map fun p => V.ref p.1) ∧ (∀ p ∈ ks, SqT K H p.1 (p.2.map V.int)) ∧ ks.length < 64 ∧
  ∀ b L, H b = none → (∀ q ∈ L, q ∈ ks) → (∀ q ∈ ks, q.2 ∈ L.map (·.2)) → Q (.ref b) (upd H b (SetTO P w b L))
theorem cr_setTT {X : Cx} (hc : X.calm = true) (hu : X.A.units + 64 < cLine) : CallR X (.type "set") (rSetTT X.K X.prog X.w) := by
  intro pins s σ H xs us Q I r h
  obtain ⟨tp, ks, rfl, hq, hk, few, q⟩ := h
  rw [Vals.ref1 r]
  obtain ⟨its, rv, pt, hz⟩ := I.tuple hq
  refine set_of_tt (P := X.prog) (w := X.w) ks (I.ok.hd hc) (show s.heap.IsTuple tp its.toArray from pt) (by simpa using refs_of_vals rv) (fun p hp => I.isT (hk p hp)) few (by omega) fun h2 tk L es ep t R g k => ?_
  refine ⟨.ref s.heap.objs.size, upd H s.heap.objs.size (SetTO X.prog X.w s.heap.objs.size L), I.laid (t' := tk) k (Nat.le_refl _) (setTO_new R.t0), rfl, q _ L (I.hok.fresh (Nat.le_refl _)) (fun p hp => List.mem_of_mem_take (g.sub p hp)) fun p hp => g.all p (by rw [List.take_length]; exact hp)⟩
/-- set(xs), xs a list of ints -/
def rSetLI (K : PySem.W.Frag) (w : World) : List V → Hp → VK → Prop := fun xs H Q => ∃ (p : Addr) (ns : List Int), xs = [V.ref p] ∧ SqL K H p (ns.map V.int) ∧ ns.length < 64 ∧
  ∀ (a : Addr) (S : Int → Bool) (c : Nat), (∀ j, S j = true ↔ j ∈ ns) → c ≤ ns.length → H a = none → Q (.ref a) (upd H a (SetO w a S c))
theorem cr_setLI {X : Cx} (hc : X.calm = true) : CallR X (.type "set") (rSetLI X.K X.w) := by
  intro pins s σ H xs us Q I r h
  obtain ⟨p, ns, rfl, hq, hl, q⟩ := h
  rw [Vals.ref1 r]
  obtain ⟨its, rv, pl, hz⟩ := I.list hq
  refine set_of_li ns (I.ok.hd hc) pl.isList (by simpa using ints_of_vals rv) (by unfold scanBound; omega) fun h' tk c R hcn k => ?_
  exact ⟨.ref s.heap.objs.size, upd H s.heap.objs.size (SetO X.w s.heap.objs.size (fun j => decide (j ∈ ns)) c), I.laid (t' := tk) k (Nat.le_refl _) (setO_new R), rfl, q _ _ _ (fun j => by simp) hcn (I.hok.fresh (Nat.le_refl _))⟩
end MI
namespace MI
open PySem PySem.Spec PyProof.Rows L2
variable {K : PySem.W.Frag} {F F' : Fz} {H H' : Hp} {O O' : Fz} {σ σ' : L2.St} {ρ ρ' : Env} {xr : XRep} {W : WX}
section
variable {X : Cx} {cx : Cxt}
abbrev rSrt (X : Cx) : List V → Hp → VK → Prop := fun xs H Q => rSortedT X.K X.prog X.w xs H Q ∨ rSortedSet X.w xs H Q
/-- a set of pairs, sorted -/
theorem srt_pairs {F0 O0 F1 O1 : Fz} {H0 H1 : Hp} {ρ0 ρ1 : Env} {Q : VK} {vs : List V} {xs : List MI.D} {ps : List (Int × Int)} {res : R} (S1 : StI X.K F1 H1 O1 σ ρ1) (t1 : Stp F0 H0 O0 F1 H1 O1) (p1 : Pin ρ0 ρ1) (dt : Dats X.K F1 H1 vs xs) (hp : pairsOf xs = some ps) (he : pairsR ps = some res) (w : WantE X.K xr W σ F0 H0 O0 ρ0 (.ok res ρ1) Q) :
    ∃ ks : List (Addr × List Int), vs = ks.map (fun p => V.ref p.1) ∧ (∀ p ∈ ks, SqT X.K H1 p.1 (p.2.map V.int)) ∧ ks.length < 64 ∧ ∀ b L, H1 b = none → (∀ q ∈ L, q ∈ ks) → (∀ q ∈ ks, q.2 ∈ L.map (·.2)) → rSrt X [V.ref b] (upd H1 b (SetTO X.prog X.w b L)) Q := by
  obtain ⟨h1, rfl⟩ := gd_some he
  simp only [Bool.and_eq_true, decide_eq_true_eq] at h1
  obtain ⟨ks, rfl, e2, e3⟩ := pairs_ok dt hp
  have lk : ks.length = ps.length := by
    have := congrArg List.length e2
    simpa using this
  have okp : ∀ q ∈ ks, ∃ x y, q.2 = [x, y] ∧ (x, y) ∈ ps ∧ 0 ≤ x ∧ x < 64 ∧ 0 ≤ y ∧ y < 64 ∧ Dat X.K F1 H1 (.ref q.1) (.tuple [.int x, .int y]) := fun q hq => by
    obtain ⟨x, y, q1, q2, q3⟩ := e3 q hq
    have := List.all_eq_true.mp h1.2 _ q2
    simp only [okPair, Bool.and_eq_true, decide_eq_true_eq] at this
    exact ⟨x, y, q1, q2, this.1.1.1, this.1.1.2, this.1.2, this.2, q3⟩
  refine ⟨ks, rfl, fun q hq => ?_, by omega, fun b L hb sub all => ?_⟩
  · obtain ⟨x, y, q1, _, _, _, _, _, q3⟩ := okp q hq
    exact pair_sq q1 q3
  · have S2 : StI X.K F1 (upd H1 b (SetTO X.prog X.w b L)) O1 σ ρ1 := S1.laid hb
    have t12 : Stp F1 H1 O1 F1 (upd H1 b (SetTO X.prog X.w b L)) O1 := stp_laid hb
    have x12 := S1.ext t12
    refine .inl ⟨b, L, 2, 64, rfl, upd_same, fun q hq => ?_, by omega, fun q hq => ?_, fun L' r pm nd l64 pw hr => ?_⟩
    · obtain ⟨x, y, q1, _, _, _, _, _, q3⟩ := okp q (sub q hq)
      exact pair_sq q1 (Dat.ext x12 q3)
    · obtain ⟨x, y, q1, _, b1, b2, b3, b4, q3⟩ := okp q (sub q hq)
      rw [q1]
      refine ⟨rfl, fun m hm => ?_⟩
      simp at hm
      rcases hm with rfl | rfl
      · exact ⟨b1, b2⟩
      · exact ⟨b3, b4⟩
    · have okL : ∀ q ∈ L', ∃ x y, q.2 = [x, y] ∧ (x, y) ∈ ps ∧ 0 ≤ x ∧ x < 64 ∧ 0 ≤ y ∧ y < 64 ∧ Dat X.K F1 H1 (.ref q.1) (.tuple [.int x, .int y]) := fun q hq => okp q (sub q (pm.mem_iff.mp hq))
      have cd : ∀ q ∈ L', ∃ x y, q.2 = [x, y] ∧ (x, y) ∈ ps ∧ TS.code 64 q.2 = codeP (x, y) ∧ pairD (TS.code 64 q.2) = .tuple [.int x, .int y] ∧ Dat X.K F1 H1 (.ref q.1) (.tuple [.int x, .int y]) := fun q hq => by
        obtain ⟨x, y, q1, q2, b1, b2, b3, b4, q3⟩ := okL q hq
        have ec : TS.code 64 q.2 = x * 64 + y := by rw [q1, code_pair]
        refine ⟨x, y, q1, q2, ec, ?_, q3⟩
        unfold pairD
        rw [ec, show (x * 64 + y) / 64 = x by omega, show (x * 64 + y) % 64 = y by omega]
      have lt : (L'.map fun q => TS.code 64 q.2).Pairwise (· < ·) := by
        rw [List.pairwise_map]
        have nd' : L'.Pairwise fun a b => a.2 ≠ b.2 := List.pairwise_map.mp nd
        refine List.Pairwise.imp_of_mem (fun {q r} hq hr h => ?_) (pw.and nd')
        obtain ⟨h1, h2⟩ := h
        obtain ⟨x, y, q1, _, b1, b2, b3, b4, _⟩ := okL q hq
        obtain ⟨x', y', q1', _, b1', b2', b3', b4', _⟩ := okL r hr
        rw [q1, q1'] at h1 h2 ⊢
        rcases pair_lt h1 h2 ⟨b1, b2⟩ ⟨b3, b4⟩ ⟨b1', b2'⟩ ⟨b3', b4'⟩ with h | h
        · rw [code_pair, code_pair]; omega
        · rw [code_pair, code_pair]; omega
      have eq : (L'.map fun q => TS.code 64 q.2) = ssetI (ps.map codeP) := by
        refine sorted_eq lt (ssetI_lt _) fun c => ?_
        rw [ssetI_mem, List.mem_map, List.mem_map]
        constructor
        · rintro ⟨q, hq, rfl⟩
          obtain ⟨x, y, q1, q2, ec, _⟩ := cd q hq
          exact ⟨_, q2, ec.symm⟩
        · rintro ⟨z, hz, rfl⟩
          have hz2 : [z.1, z.2] ∈ ks.map (·.2) := by
            rw [e2]
            exact List.mem_map.mpr ⟨z, hz, rfl⟩
          obtain ⟨q, hq, eq2⟩ := List.mem_map.mp hz2
          obtain ⟨q', hq', eq3⟩ := List.mem_map.mp (all q hq)
          refine ⟨q', pm.mem_iff.mpr hq', ?_⟩
          rw [eq3, eq2, code_pair]
          rfl
      have dd : Dats X.K F1 (upd H1 b (SetTO X.prog X.w b L)) (L'.map fun q => V.ref q.1) ((ssetI (ps.map codeP)).map pairD) := by
        rw [← eq]
        clear eq lt pw nd pm l64 okL
        induction L' with
        | nil => exact .nil
        | cons q L' ih =>
          obtain ⟨x, y, _, _, _, e, dq⟩ := cd q List.mem_cons_self
          refine .cons (by rw [e]; exact Dat.ext x12 dq) (ih fun z hz => cd z (List.mem_cons_of_mem _ hz))
      exact (NewR.lst hr dd).done S2 (t1.trans t12) p1 w
/-- a set of ints, sorted -/
theorem srt_ints {F0 O0 F1 O1 : Fz} {H0 H1 : Hp} {ρ0 ρ1 : Env} {Q : VK} {ns : List Int} {res : R} (S1 : StI X.K F1 H1 O1 σ ρ1) (t1 : Stp F0 H0 O0 F1 H1 O1) (p1 : Pin ρ0 ρ1) (he : intsR ns = some res) (w : WantE X.K xr W σ F0 H0 O0 ρ0 (.ok res ρ1) Q) :
    ns.length < 64 ∧ ∀ (b : Addr) (S : Int → Bool) (c : Nat), (∀ j, S j = true ↔ j ∈ ns) → c ≤ ns.length → H1 b = none → rSrt X [V.ref b] (upd H1 b (SetO X.w b S c)) Q := by
  obtain ⟨h1, rfl⟩ := gd_some he
  simp only [decide_eq_true_eq] at h1
  refine ⟨h1, fun b S c hS hc hb => ?_⟩
  have S2 : StI X.K F1 (upd H1 b (SetO X.w b S c)) O1 σ ρ1 := S1.laid hb
  have t12 : Stp F1 H1 O1 F1 (upd H1 b (SetO X.w b S c)) O1 := stp_laid hb
  refine .inr ⟨b, S, c, rfl, upd_same, by omega, fun ms r pw hm hl2 hr => ?_⟩
  have em : ms = ssetI ns := sorted_eq pw (ssetI_lt _) fun z => by rw [hm, hS, ssetI_mem]
  subst em
  exact (NewR.lst hr (dats_ints _)).done S2 (t1.trans t12) p1 w
theorem pd_sset {k : Nat} (hr : Room k X.A) (hc : X.calm = true) {a : Expr} {x : Ex} {p p2 pos pos2 : Pos} (hg : Gl X "sorted") (hm : X.mg "sorted" = none) (hg2 : Gl X "set") (hm2 : X.mg "set" = none) (hs : noStar a = true) (ha : PD X xr W a (evE cx x)) :
    PD X xr W (.Call (.Name "sorted" p) [.Call (.Name "set" p2) [a] [] pos2] [] pos) (evE cx (.sset x)) := by
  obtain ⟨ta, pa, ka⟩ := ha.run
  have hu := hr.un
  refine ⟨_, pe_callB (cr_or (cr_sortedT hc) (cr_sortedSet hc)) hg hm (by decide +kernel) (pa_cons (pe_callTy (cr_or (cr_or (cr_setOfT hc (by omega)) (cr_setTT hc (by omega))) (cr_or (cr_setTI hc) (cr_setLI hc))) hg2 hm2 (by decide +kernel) (pa_cons pa pa_nil (star_one hs _ _)) (by decide) (by decide) (star_one hs _ _) rfl) pa_nil (star_one rfl _ _)) (by decide) (by decide) (star_one rfl _ _) rfl, fun F H O σ ρ Q S w => ?_⟩
  simp only [evE] at w
  refine ka F H O σ ρ _ S (WantG.seq .refl (.refl _) w fun ra ρ1 F1 H1 O1 va S1 _ t1 p1 r1 w => ?_)
  obtain ⟨res, he, w⟩ := w.lift
  simp only [Option.bind_eq_some_iff] at he
  obtain ⟨d, hd, he⟩ := he
  cases d with
  | list xs =>
    obtain ⟨l, vs, rfl, hl, dt⟩ := (cont_ok S1 r1 hd).lst
    simp only [ssetD, ssetL] at he
    split at he
    · rename_i ps hp
      obtain ⟨ks, rfl, k2, k3, k4⟩ := srt_pairs S1 t1 p1 dt hp he w
      exact .inl (.inl ⟨l, ks, rfl, SqL.of hl, k2, k3, k4⟩)
    · simp only [Option.bind_eq_some_iff] at he
      obtain ⟨ns, hn, he⟩ := he
      have ev := intsOf_V dt hn
      subst ev
      obtain ⟨k3, k4⟩ := srt_ints S1 t1 p1 he w
      exact .inr (.inr ⟨l, ns, rfl, SqL.of hl, k3, k4⟩)
  | tuple xs =>
    obtain ⟨l, vs, rfl, hl, dt⟩ := (cont_ok S1 r1 hd).tup
    simp only [ssetD, ssetL] at he
    split at he
    · rename_i ps hp
      obtain ⟨ks, rfl, k2, k3, k4⟩ := srt_pairs S1 t1 p1 dt hp he w
      exact .inl (.inr ⟨l, ks, rfl, hl, k2, k3, k4⟩)
    · simp only [Option.bind_eq_some_iff] at he
      obtain ⟨ns, hn, he⟩ := he
      have ev := intsOf_V dt hn
      subst ev
      obtain ⟨k3, k4⟩ := srt_ints S1 t1 p1 he w
      exact .inr (.inl ⟨l, ns, rfl, hl, k3, k4⟩)
  | _ => cases he
end
end MI
namespace MI
open PySem PySem.Spec PyProof.Rows L2
variable {K : PySem.W.Frag} {F F' : Fz} {H H' : Hp} {O O' : Fz} {σ σ' : L2.St} {ρ ρ' : Env} {xr : XRep} {W : WX}
section
variable {X : Cx} {cx : Cxt}
/-- nothing is said -/
theorem pds_bad {st : Stmt} {ev : Env → Out Fl} (h : ∀ ρ, ev ρ = .no) : PDst X xr W st ev :=
  ⟨fun _ _ _ => False, ⟨fun pins s σ H D I h => h.elim⟩, fun F H O σ ρ D S w => by rw [h] at w; exact w⟩
theorem pd_bad {e : Expr} {ev : Env → Out R} (h : ∀ ρ, ev ρ = .no) : PD X xr W e ev :=
  ⟨fun _ _ _ => False, ⟨fun pins s σ H Q I h => h.elim⟩, fun F H O σ ρ Q S w => by rw [h] at w; exact w⟩
theorem pdt_bad {e : Expr} {ev : Env → Out Bool} (h : ∀ ρ, ev ρ = .no) : PDt X xr W e ev :=
  ⟨fun _ _ _ => False, ⟨fun pins s σ H Q I h => h.elim⟩, fun F H O σ ρ Q S w => by rw [h] at w; exact w⟩
/-! ### while -/
def whK (c : Env → Out Bool) (b : Env → Out Fl) (n : Nat) (k : Bool) (ρ1 : Env) : Out Fl := if k then (match b ρ1 with
    | .ok .next ρ2 => whileL c b n ρ2
    | .ok .cont ρ2 => whileL c b n ρ2
    | .ok .brk ρ2 => .ok .next ρ2
    | o => o) else .ok .next ρ1
theorem whileL_succ (c : Env → Out Bool) (b : Env → Out Fl) (n : Nat) (ρ : Env) : whileL c b (n + 1) ρ = (c ρ).bind (whK c b n) := by
  unfold whileL Out.bind whK
  cases c ρ with
  | ok k ρ1 => cases k <;> rfl
  | ex x ρ1 => rfl
  | no => rfl
theorem pds_while {c : Expr} {body : List Stmt} {z : Ex} {b : List Sx} {pos : Pos} (hp : PassesOwn (model X.prog X.w) X.A X.env X.xe) (hc : PDt X xr W c (evT cx z)) (hb : PDss X xr W body (evSs cx b)) : PDst X xr W (.While c body [] pos) (evS cx (.while z b)) := by
  obtain ⟨tc, pc, kc⟩ := hc.run
  obtain ⟨tb, pb, kb⟩ := hb.run
  refine ⟨_, ps_whileE hp pc pb pss_nil, fun F H O σ ρ D S w => ?_⟩
  simp only [evS] at w
  refine ⟨fun m σ' H' => ∃ F' O' ρ', StI X.K F' H' O' σ' ρ' ∧ WantS X.K xr W F' H' O' σ' ρ' (whileL (evT cx z) (evSs cx b) m ρ') D, ⟨cx.fuel, F, O, ρ, S, w⟩, ?_⟩
  rintro m σ2 H2 ⟨F2, O2, ρ2, S2, w2⟩
  cases m with
  | zero => exact w2.elim
  | succ n =>
    rw [whileL_succ] at w2
    refine kc F2 H2 O2 σ2 ρ2 _ S2 (WantS.seq .refl (.refl _ _) w2 fun k ρ3 F3 H3 O3 k' S3 t13 t3 p3 r3 w3 => ?_)
    subst r3
    cases k' with
    | false => exact ite_ff (w3 F3 H3 O3 σ2 S3 t3 p3)
    | true =>
      refine ite_tt ⟨fun σ' H' => ∃ F' O' ρ', StI X.K F' H' O' σ' ρ' ∧ WantS X.K xr W F' H' O' σ' ρ' (whileL (evT cx z) (evSs cx b) n ρ') D, fun σ' H' h => ⟨n, Nat.lt_succ_self n, h⟩, ?_⟩
      have w4 := WantS.after w3 t3 p3
      refine kb F3 H3 O3 σ2 ρ3 _ S3 ?_
      unfold whK at w4
      rw [if_pos rfl] at w4
      cases e : evSs cx b ρ3 with
      | no => rw [e] at w4; exact w4.elim
      | ex x ρ5 => rw [e] at w4; exact w4
      | ok fl ρ5 =>
        rw [e] at w4
        cases fl with
        | next => exact fun F5 H5 O5 σ5 S5 t5 p5 => ⟨F5, O5, ρ5, S5, WantS.after w4 t5 p5⟩
        | cont => exact fun F5 H5 O5 σ5 S5 t5 p5 => ⟨F5, O5, ρ5, S5, WantS.after w4 t5 p5⟩
        | brk => exact w4
        | ret m => exact w4
end
end MI
namespace MI
open PySem PySem.Spec PyProof.Rows L2
variable {K : PySem.W.Frag} {F F' : Fz} {H H' : Hp} {O O' : Fz} {σ σ' : L2.St} {ρ ρ' : Env} {xr : XRep} {W : WX}
/-! ### a def with a star parameter -/
def FnRG (P : Program) (w : World) (K : PySem.W.Frag) (mg : Str → Option Value) (base : Heap) (k : Nat) (f : Addr) (sp : Sp) : Prop :=
  ∀ (A : Around) (outer : List PySem.Env) (s : Shared) (H : Hp) (us : List Value) (vs : List V) (Q : VK) (E : XK), A.guards = some [] → Room k A → Env0 P w K mg base A outer s H → Vals vs us → sp vs H Q E → codeAny (model P w) A (.call (.ref f) ⟨us, []⟩) (CR (L2.CX P w) outer P w H s Q E) s
/-- its promise: m values, what is left is a new tuple -/
def SpStar (K : PySem.W.Frag) (xr : XRep) (φ : List M → FOut) (m : Nat) : Sp := fun vs H Q E => ∃ ws rest, vs = ws ++ rest ∧ ws.length = m ∧ rest.length ≤ sizeLine ∧ ∀ p, H p = none → SpMi K xr φ (ws ++ [V.ref p]) (upd H p (.tup rest)) Q E
/-- what its text binds -/
def StarBind (fd : FuncData) (ps : List Str) (pv : Str) : Prop := ∀ us rest : List Value, us.length = ps.length → bindArgs fd ⟨us ++ rest, []⟩ = (newTuple rest >>= fun t => pure (ps.zip us ++ [(pv, t)]))
theorem starG_of {P : Program} {w : World} {K : PySem.W.Frag} {mg : Str → Option Value} {base : Heap} {k : Nat} {f : Addr} {name qual pv : Str} {params : Arguments} {body : List Stmt} {scope : Scope} {dV kV doc pm cdv ct oc : Value} {an od : Option Addr}
    {osl : Array (Option Value)} {N ps : List Str} {xr : XRep} {φ : List M → FOut} (lk : K.lookup f = some ⟨oc, od, .func (PySem.W.fnOf name qual params body scope dV kV doc pm an cdv ct), osl⟩) (hcd : PySem.W.codeIn K cdv qual = true) (S : FnScope N (ps ++ [pv]) scope) (hb : StarBind (PySem.W.fnOf name qual params body scope dV kV doc pm an cdv ct) ps pv)
    (hbody : ∀ (A : Around) (outer : List PySem.Env) (s : Shared) (H : Hp) (vs : List V) (Q : VK) (E : XK), A.guards = some [] → Room k (A.deeper (envOfC qual scope s.heap.objs.size f cdv)) → SpMi K xr φ vs H Q E →
      ∃ t, PSs (cxOf (L2.CX P w) P w K mg base N qual scope f cdv A outer s H E) body t ∧ t { nx := fun _ H' => Q .non H', rt := Q } (start N vs) H) :
    FnRG P w K mg base (k + 1) f (SpStar K xr φ ps.length) := by
  intro A outer s H us vs Q E ga hr e0 r hsp
  obtain ⟨ws, rest, rfl, hl, hz, hq⟩ := hsp
  obtain ⟨u1, u2, rfl, r1, r2⟩ := StX.vals_split r
  have hn : H s.heap.objs.size = none := e0.hok.fresh (Nat.le_refl _)
  have l1 : u1.length = ps.length := r1.length.symm.trans hl
  have l2 : u2.length ≤ sizeLine := by rw [← r2.length]; exact hz
  refine StX.run_bnd lk hcd S hr e0 (G := fun xs H2 => ∃ p, H p = none ∧ xs = ws ++ [V.ref p] ∧ H2 = upd H p (.tup rest)) (fun A' Ex Q' h => ?_) fun s2 H2 xs ⟨p, hp, q1, q2⟩ hr' => ?_
  · rw [hb u1 u2 l1]
    have new : ObjOk P w (upd H s.heap.objs.size (.tup rest)) (s.heap.push ({ cls := .type "tuple", data := .seq u2.toArray } : Obj)) s.heap.objs.size (.tup rest) := ⟨hz, u2, r2, _, Heap.get?_push_size _ rfl, rfl, _, rfl⟩
    have un := StX.un_laid (fs := frs outer) (s := s) (o := ({ cls := .type "tuple", data := .seq u2.toArray } : Obj)) (u := .tup rest) hn
    refine wpAny_bind (wpAny_newTuple (wpAny_pure ?_) l2)
    have z := h _ _ (ws ++ [V.ref s.heap.objs.size]) (u1 ++ [Value.ref s.heap.objs.size]) (StX.env0_laid e0 new) un rfl (fun e s' => StX.cxUp outer s H _ _ E e s' un (fun _ _ q => Heap.get?_push_of_some _ q) rfl) (r1.append (.cons rfl .nil)) (by simp [hl]) ⟨_, hn, rfl, rfl⟩
    rwa [List.zip_append l1.symm] at z
  · subst q1 q2
    exact hbody A outer s2 _ _ Q E ga hr' (hq p hp)
section
variable {X : Cx} {cx : Cxt}
/-- .. called -/
theorem callR_ok {F0 O0 : Fz} {H0 : Hp} {ρ0 : Env} {all out : List V} {rs : List R} {src : List Arg} {f : Nat} {Q : VK} (S : StI K F H O σ ρ) (rr : RepRs K H0 F H O σ all rs) (pk : Pick K all src out) (t : Stp F0 H0 O0 F H O) (p : Pin ρ0 ρ) (w : WantE K xr W σ F0 H0 O0 ρ0 (callR cx f rs src ρ) Q) :
    SpMi K xr (cx.φ f) out H Q (WE W σ) := by
  unfold callR at w
  cases ea : argsOf ρ rs src with
  | none => rw [ea] at w; exact w.elim
  | some ms =>
    rw [ea] at w
    dsimp only at w
    split at w
    · rename_i hnd
      have hh := handed S rr ea pk
      refine ⟨F, Lent σ (ownsOf ρ rs src), ms, arg_ok S hnd.1 hh, ?_⟩
      cases ef : cx.φ f ms with
      | no => rw [ef] at w; exact w.elim
      | ret m fin =>
        rw [ef] at w
        dsimp only at w
        split at w
        · rename_i kd
          intro F3 H3 v C fo ro
          obtain ⟨S3, t3, p3⟩ := back_ok S hnd.1 hh kd C fo
          exact w F3 H3 O v S3 (t.trans t3) (p.trans p3) (res_ok S (fun a e => t.none e) ro)
        · exact w.elim
      | ex x fin =>
        rw [ef] at w
        dsimp only at w
        split at w
        · rename_i kd
          intro F3 H3 cls d C fo ro
          obtain ⟨S3, t3, p3⟩ := back_ok S hnd.1 hh kd C fo
          exact w F3 H3 O cls d S3 (t.trans t3) (p.trans p3) ro
        · exact w.elim
    · exact w.elim
def tCallX (sp : Sp) (W : WX) (t : TA) : TE := fun σ H Q => t σ H fun vs H1 => sp vs H1 Q (WE W σ)
theorem pe_callX {k : Nat} {f : Addr} {sp : Sp} {x : Str} {p pos : Pos} {e : Expr} {es : List Expr} {t : TA} (hG : FnRG X.prog X.w X.K X.mg X.base k f sp) (ga : X.A.guards = some []) (hr : Room k X.A) (hg : Gl X x) (hm : X.mg x = some (.ref f)) (hk : PySem.W.keepIn X.K (.ref f) = true) (tk : Takes X W)
    (ha : PA X (e :: es) t) (hne : noStar e = true) (hdb : (x == ("__debug__" : Str)) = false) : PE X (.Call (.Name x p) (e :: es) [] pos) (tCallX sp W t) := by
  constructor
  intro pins s σ H Q I h
  apply wpAny_Call_Name_kw
  refine ld_glob I hg hm ?_ hdb
  have go : ∀ {us : List Value} {s1 : Shared} {vs : List V} {H1 : Hp}, Inv X pins σ H1 s1 → Vals vs us → sp vs H1 Q (WE W σ) → wpAny (model X.prog X.w) X.A (call (.ref f) us) (EP X pins σ Q) X.xe s1 := fun {us s1 vs H1} I1 r q => by
    refine wpAny_call (codeAny_mono (hG _ _ s1 H1 us vs Q (WE W σ) ga hr I1.env0 r q) fun res s' hq => ?_)
    match res, hq with
    | .error e, hq => exact passAt tk σ pins H1 s1 e s' I1 hq
    | .ok (.ret u), hq => exact I1.after hq
  cases hst : (backTo pos (starEach es X.env)).any (·.1) with
  | true => exact PySem.W.callWith_S2 (h₀ := X.base) I.ok.mod.kin hk (thn (ha.run pos pins s σ H _ I h) fun us s1 ⟨vs, H1, I1, r, q⟩ => ⟨I1.kIn, go I1 r q⟩) (star_one hne _ _) hst
  | false => exact PySem.W.callWith_K (h₀ := X.base) I.ok.mod.kin hk (thn (ha.run pos pins s σ H _ I h) fun us s1 ⟨vs, H1, I1, r, q⟩ => ⟨I1.kIn, go I1 r q⟩) (star_one hne _ _) hst
/-! ### the values, the star's last -/
def evSt (cx : Cxt) (st : Option Ex) (ρ : MI.Env) : Out (List R) := match st with
  | none => .ok [] ρ
  | some e => ((evE cx e ρ).bind MI.frz).bind starD
def evRx (cx : Cxt) : List Ex → Option Ex → List Bool → MI.Env → Out (List R)
  | [], st, _, ρ => evSt cx st ρ
  | e :: es, st, refs, ρ => ((evE cx e ρ).bind (R.pass (refs.headD true))).bind fun r ρ => (evRx cx es st refs.tail ρ).bind fun rs ρ => .ok (r :: rs) ρ
theorem evRx_eq (cx : Cxt) : ∀ (es : List Ex) (st : Option Ex) (refs : List Bool) (ρ : MI.Env), evRx cx es st refs ρ = (evRs cx es refs ρ).bind fun rs ρ => (evSt cx st ρ).bind fun ss ρ => .ok (rs ++ ss) ρ
  | [], st, refs, ρ => by
    simp only [evRx, evRs, Out.bind, List.nil_append]
    cases evSt cx st ρ <;> rfl
  | e :: es, st, refs, ρ => by
    simp only [evRx, evRs]
    cases (evE cx e ρ).bind (R.pass (refs.headD true)) with
    | ex z ρ1 => rfl
    | no => rfl
    | ok r ρ1 =>
      show (evRx cx es st refs.tail ρ1).bind _ = ((evRs cx es refs.tail ρ1).bind _).bind _
      rw [evRx_eq cx es st refs.tail ρ1]
      cases evRs cx es refs.tail ρ1 with
      | ex z ρ2 => rfl
      | no => rfl
      | ok rs ρ2 =>
        show ((evSt cx st ρ2).bind _).bind _ = (evSt cx st ρ2).bind _
        cases evSt cx st ρ2 <;> rfl
theorem evE_callS (cx : Cxt) (f m : Nat) (es : List Ex) (st : Option Ex) (refs : List Bool) (ρ : MI.Env) : evE cx (.callS f es st refs m) ρ = (evRx cx es st refs ρ).bind fun rs ρ => starR cx f m rs ρ := by
  rw [evRx_eq, bindA]
  simp only [evE]
  congr 1
  funext rs ρ1
  cases st with
  | none => simp [evSt, Out.bind]
  | some e =>
    show ((evSt cx (some e) ρ1)).bind _ = ((evSt cx (some e) ρ1).bind _).bind _
    rw [bindA]
    rfl
structure PDx (X : Cx) (xr : XRep) (W : WX) (es : List Expr) (ev : Env → Out (List R)) : Prop where
  run : ∃ t : TA, PA X es t ∧ RunR X xr W t ev
theorem rep_vals {H0 : Hp} : ∀ {vs : List V} {ds : List D}, Dats K F H vs ds → RepRs K H0 F H O σ vs (ds.map .val)
  | _, _, .nil => .nil
  | _, _, .cons a b => .cons a (rep_vals b)
theorem pdx_nil {refs : List Bool} : PDx X xr W [] (evRx cx [] none refs) := ⟨_, pa_nil, fun F H O σ ρ Q S w => by
  simp only [evRx, evSt] at w
  exact w F H O _ S .refl (.refl _) .nil⟩
theorem pdx_star {e : Expr} {x : Ex} {refs : List Bool} {p : Pos} (h : PD X xr W e (evE cx x)) : PDx X xr W [.Starred e p] (evRx cx [] (some x) refs) := by
  obtain ⟨te, pe, ke⟩ := h.frz.run
  refine ⟨_, StX.pa_star pe pa_nil, fun F H O σ ρ Q S w => ?_⟩
  simp only [evRx, evSt] at w
  refine ke F H O σ ρ _ S (WantG.seq .refl (.refl _) w fun d ρ1 F1 H1 O1 v S1 _ t1 p1 r1 w1 => ?_)
  unfold starD at w1
  cases d with
  | list ds =>
    obtain ⟨a, vs, rfl, ha, hd⟩ := Dat1.lst (.sh r1)
    exact ⟨a, vs, rfl, .inr (SqL.of ha), w1 F1 H1 O1 _ S1 t1 p1 (by rw [List.append_nil]; exact rep_vals hd)⟩
  | tuple ds =>
    obtain ⟨a, vs, rfl, ha, hd⟩ := Dat1.tup (.sh r1)
    exact ⟨a, vs, rfl, .inl ha, w1 F1 H1 O1 _ S1 t1 p1 (by rw [List.append_nil]; exact rep_vals hd)⟩
  | _ => exact w1.elim
theorem pdx_cons {e : Expr} {es : List Expr} {x : Ex} {xs : List Ex} {st : Option Ex} {refs : List Bool} (hs : noStar e = true) (ha : PD X xr W e (evE cx x)) (hb : PDx X xr W es (evRx cx xs st refs.tail)) : PDx X xr W (e :: es) (evRx cx (x :: xs) st refs) := by
  obtain ⟨ta, pa, ka⟩ := ha.run
  obtain ⟨tb, pb, kb⟩ := hb.run
  refine ⟨_, pa_cons pa pb (star_one hs _ _), fun F H O σ ρ Q S w => ?_⟩
  simp only [evRx] at w
  rw [bindA] at w
  refine ka F H O σ ρ _ S (WantG.seq .refl (.refl _) w fun r ρ1 F1 H1 O1 v S1 _ t1 p1 r1 w => ?_)
  cases e : R.pass (refs.headD true) r ρ1 with
  | no => rw [e] at w; exact w.elim
  | ex z ρ2 => exact (pass_ex e).elim
  | ok r2 ρ2 =>
    rw [e] at w
    obtain ⟨F2, O2, S2, rr, p2, f1, f2, f3⟩ := pass_ok S1 r1 e
    have t2 := stp_pass t1 f1 f2 f3
    have w' : WantG X.K xr W (fun F' H' O' vs rs => RepRs X.K H F' H' O' σ vs rs) σ F H O ρ ((evRx cx xs st refs.tail ρ2).bind fun rs ρ => .ok (r2 :: rs) ρ) Q := w
    refine kb F2 H1 O2 σ ρ2 _ S2 (WantG.seq t2 (p1.trans p2) w' fun rs ρ3 F3 H3 O3 vs S3 t23 t3 p3 r3 w => ?_)
    exact w F3 H3 O3 _ S3 t3 p3 (.cons (rr.stp S2 t23) (r3.from fun a e => t2.none e))
theorem RepRs.take {H0 : Hp} : ∀ {vs : List V} {rs : List R} (n : Nat), RepRs K H0 F H O σ vs rs → RepRs K H0 F H O σ (vs.take n) (rs.take n)
  | _, _, 0, _ => by simpa using RepRs.nil
  | _, _, n + 1, .nil => by simpa using RepRs.nil
  | _, _, n + 1, .cons a b => .cons a (RepRs.take n b)
theorem RepRs.vals {H0 : Hp} : ∀ {vs : List V} {rs : List R} {ds : List D}, RepRs K H0 F H O σ vs rs → valsOf rs = some ds → Dats K F H vs ds
  | _, _, _, .nil, h => by
    simp only [valsOf] at h
    cases h
    exact .nil
  | _, _, _, .cons (r := r) a b, h => by
    cases r with
    | val d =>
      simp only [valsOf, Option.map_eq_some_iff] at h
      obtain ⟨ds', h, rfl⟩ := h
      exact .cons a (RepRs.vals b h)
    | _ => cases h
theorem RepRs.drop {H0 : Hp} : ∀ {vs : List V} {rs : List R} (n : Nat), RepRs K H0 F H O σ vs rs → RepRs K H0 F H O σ (vs.drop n) (rs.drop n)
  | _, _, 0, h => by simpa using h
  | _, _, n + 1, .nil => by simpa using RepRs.nil
  | _, _, n + 1, .cons a b => by simpa using RepRs.drop n b
theorem pick_to {all : List V} : Pick K all (srcTo all.length) all := by
  have key : ∀ (pre out : List V), Pick K (pre ++ out) ((List.range' pre.length out.length).map .e) out := by
    intro pre out
    induction out generalizing pre with
    | nil => exact .nil
    | cons v out ih =>
      have := ih (pre ++ [v])
      rw [List.append_assoc, List.length_append] at this
      exact .e (by simp) this
  have := key [] all
  unfold srcTo
  rw [List.range_eq_range']
  exact this
theorem star_run {f m : Nat} {t : TA} {xs : List Ex} {st : Option Ex} {refs : List Bool} (ka : RunR X xr W t (evRx cx xs st refs)) : RunE X xr W (tCallX (SpStar X.K xr (cx.φ f) m) W t) (evE cx (.callS f xs st refs m)) := by
  intro F H O σ ρ Q S w
  rw [evE_callS] at w
  refine ka F H O σ ρ _ S (WantG.seq .refl (.refl _) w fun rs ρ1 F1 H1 O1 vs S1 _ t1 p1 r1 w1 => ?_)
  unfold starR at w1
  split at w1
  · rename_i ds hds
    split at w1
    · rename_i hc
      obtain ⟨hm, hz⟩ := hc
      have dd : Dats X.K F1 H1 (vs.drop m) ds := (r1.drop m).vals hds
      have lv : vs.length = rs.length := r1.length
      refine ⟨vs.take m, vs.drop m, (List.take_append_drop m vs).symm, by rw [List.length_take]; omega, by rw [dd.length]; simpa [lim_eq] using hz, fun p hp => ?_⟩
      obtain ⟨F2, S2, t2, q2⟩ := (NewR.tup (p := p) hp dd).use S1
      have rr : RepRs X.K H F2 (upd H1 p (.tup (vs.drop m))) O1 σ (vs.take m ++ [V.ref p]) (rs.take m ++ [.val (.tuple ds)]) := RepRs.append ((r1.take m).stp S1 t2) (.cons (q2.from fun a e => t1.none e) .nil)
      have lo : (vs.take m ++ [V.ref p]).length = m + 1 := by simp [List.length_take]; omega
      exact callR_ok S2 rr (by rw [← lo]; exact pick_to) (t1.trans t2) p1 w1
    · exact w1.elim
  · exact w1.elim
end
end MI
namespace MI
open PySem PySem.Spec PyProof.Rows L2
/-! ### the same data -/
mutual
def eqD : D → D → Bool
  | .none, .none => true
  | .bool a, .bool b => a == b
  | .int a, .int b => a == b
  | .str a, .str b => a == b
  | .list xs, .list ys => eqDs xs ys
  | .tuple xs, .tuple ys => eqDs xs ys
  | _, _ => false
def eqDs : List D → List D → Bool
  | [], [] => true
  | x :: xs, y :: ys => eqD x y && eqDs xs ys
  | _, _ => false
end
mutual
theorem eqD_ok : ∀ (x y : D), eqD x y = true → x = y
  | .none, y, h => by cases y <;> first | rfl | (simp [eqD] at h)
  | .bool a, y, h => by cases y <;> simp [eqD] at h; rw [h]
  | .int a, y, h => by cases y <;> simp [eqD] at h; rw [h]
  | .str a, y, h => by cases y <;> simp [eqD] at h; rw [h]
  | .list xs, y, h => by cases y <;> simp [eqD] at h; rw [eqDs_ok xs _ h]
  | .tuple xs, y, h => by cases y <;> simp [eqD] at h; rw [eqDs_ok xs _ h]
  | .dict xs, y, h => by cases y <;> simp [eqD] at h
theorem eqDs_ok : ∀ (x y : List D), eqDs x y = true → x = y
  | [], y, h => by cases y <;> first | rfl | (simp [eqDs] at h)
  | x :: xs, y, h => by
    cases y with
    | nil => simp [eqDs] at h
    | cons y ys =>
      have h' : eqD x y = true ∧ eqDs xs ys = true := by simpa [eqDs] using h
      rw [eqD_ok x y h'.1, eqDs_ok xs ys h'.2]
end
def eqA : Arg → Arg → Bool
  | .e k, .e j => k == j
  | .d x, .d y => eqD x y
  | _, _ => false
def eqAs : List Arg → List Arg → Bool
  | [], [] => true
  | x :: xs, y :: ys => eqA x y && eqAs xs ys
  | _, _ => false
theorem eqA_ok {a b : Arg} (h : eqA a b = true) : a = b := by
  cases a <;> cases b <;> simp [eqA] at h
  · rw [h]
  · rw [eqD_ok _ _ h]
theorem eqAs_ok : ∀ {x y : List Arg}, eqAs x y = true → x = y
  | [], y, h => by cases y <;> first | rfl | (simp [eqAs] at h)
  | x :: xs, y, h => by
    cases y with
    | nil => simp [eqAs] at h
    | cons y ys =>
      have h' : eqA x y = true ∧ eqAs xs ys = true := by simpa [eqAs] using h
      rw [eqA_ok h'.1, eqAs_ok h'.2]
/-! ### what is known of the text around -/
structure Shape where
  n : Nat
  ks : List Str
  src : List Arg
structure Sig where
  name : Str
  ps : List Str
  shapes : List Shape
  star : Bool
structure Gi where
  sigs : List Sig
  consts : List (String × D)
structure SC where
  N : List Str
  sc : Scope
  fn : Str → Bool
def noBs : List Str := ["len", "abs", "any", "all", "max", "min", "sum", "sorted", "int", "str", "list", "tuple", "bool", "dict", "isinstance", "repr", "range", "enumerate", "zip", "set"]
structure FnInfo (X : Cx) (xr : XRep) (k : Nat) (φ : List M → FOut) (sg : Sig) : Prop where
  ex : ∃ (f : Addr) (fd : FuncData), FnG X.prog X.w X.K X.mg X.base k f fd sg.ps (SpMi X.K xr φ) ∧ X.mg sg.name = some (.ref f) ∧ PySem.W.keepIn X.K (.ref f) = true ∧
    ∀ sh ∈ sg.shapes, ∃ g gV, KBn X.K fd sg.ps sh.n sh.ks g gV ∧ ∀ vs zs : List V, vs.length = sh.n → zs.length = sh.ks.length → Pick X.K (vs ++ zs) sh.src (gV vs zs)
structure FnStar (X : Cx) (xr : XRep) (k : Nat) (φ : List M → FOut) (sg : Sig) : Prop where
  ex : ∃ f : Addr, FnRG X.prog X.w X.K X.mg X.base k f (SpStar X.K xr φ (sg.ps.length - 1)) ∧ X.mg sg.name = some (.ref f) ∧ PySem.W.keepIn X.K (.ref f) = true
structure Sup (gi : Gi) (X : Cx) (xr : XRep) (k : Nat) (cx : Cxt) : Prop where
  room : Room k X.A
  gd : X.A.guards = some []
  calm : X.calm = true
  nd : X.N.Nodup
  noB : ∀ n ∈ noBs, X.mg n = none
  glo : ∀ p ∈ gi.consts, ∃ v u, X.mg (Str.ofString p.1) = some u ∧ RelV v u ∧ ∀ F H, Dat X.K F H v p.2
  fns : ∀ i sg, gi.sigs[i]? = some sg → FnInfo X xr k (cx.φ i) sg
  stars : ∀ i sg, gi.sigs[i]? = some sg → sg.star = true → FnStar X xr k (cx.φ i) sg
  sys : SysOk X.K
structure Ct (gi : Gi) (X : Cx) (xr : XRep) (k : Nat) (cx : Cxt) (s : SC) : Prop where
  sup : Sup gi X xr k cx
  N : X.N = s.N
  sc : X.env.scope = s.sc
  fn : X.fn = s.fn
def SC.blk (s : SC) (scope : Scope) : SC := ⟨s.N, relS scope s.sc, fun x => scope.names.lookup x == some .cell⟩
theorem Ct.blk {gi : Gi} {X : Cx} {xr : XRep} {k : Nat} {cx : Cxt} {s : SC} (c : Ct gi X xr k cx s) (scope : Scope) (s0 : Shared) (H : Hp) (C : Addr) (cl : List (Str × Addr)) (fp : List Addr) : Ct gi (X.blk s0 H scope (compEnvC scope cl C X.env) fp) xr k cx (s.blk scope) := by
  refine ⟨⟨c.sup.room, c.sup.gd, c.sup.calm, c.sup.nd, c.sup.noB, c.sup.glo, fun i sg h => ⟨(c.sup.fns i sg h).ex⟩, fun i sg h hs => ⟨(c.sup.stars i sg h hs).ex⟩, c.sup.sys⟩, c.N, ?_, rfl⟩
  show relabel scope X.env = relS scope s.sc
  rw [← c.sc]
  rfl
theorem takes0 {X : Cx} {s0 : Shared} {H : Hp} {scope : Scope} {env : PySem.Env} {fp : List Addr} : Takes (X.blk s0 H scope env fp) W0 := fun u s' ⟨a, B, sI, pins, σ, H, cls, d, e, I, nb, up, sky, na, os, ag, w⟩ => w
/-! ### names -/
def glB (s : SC) (n : Str) : Bool := s.sc.names.lookup n == some .globalImplicit && !(n == ("__debug__" : Str))
def visB (s : SC) (i : Nat) (n : Str) : Bool := s.N[i]? == some n && (match s.sc.names.lookup n with | some .local => true | some .cell => true | some .free => true | _ => false) && !(n == ("__debug__" : Str)) && !(n == ("__classdict__" : Str))
def locB (s : SC) (i : Nat) (n : Str) : Bool := s.N[i]? == some n && (match s.sc.names.lookup n with | some .local => true | some .cell => s.fn n | _ => false)
section
variable {gi : Gi} {X : Cx} {xr : XRep} {k : Nat} {cx : Cxt} {s : SC}
theorem glB_ok {n : Str} (c : Ct gi X xr k cx s) (h : glB s n = true) : Gl X n ∧ (n == ("__debug__" : Str)) = false := by
  unfold glB at h
  rw [Bool.and_eq_true] at h
  refine ⟨?_, by simpa using h.2⟩
  show X.env.scope.names.lookup n = _
  rw [c.sc]
  simpa using h.1
theorem visB_ok {i : Nat} {n : Str} (c : Ct gi X xr k cx s) (h : visB s i n = true) : X.N[i]? = some n ∧ Vis X.env.scope n ∧ (n == ("__debug__" : Str)) = false ∧ (n == ("__classdict__" : Str)) = false := by
  unfold visB at h
  simp only [Bool.and_eq_true, beq_iff_eq, Bool.not_eq_true'] at h
  obtain ⟨⟨⟨h1, h2⟩, h3⟩, h4⟩ := h
  refine ⟨by rw [c.N]; exact h1, ?_, h3, h4⟩
  unfold Vis
  rw [c.sc]
  split at h2 <;> first | (exact .inl (by assumption)) | (exact .inr (.inl (by assumption))) | (exact .inr (.inr (by assumption))) | cases h2
theorem locB_ok {i : Nat} {n : Str} (c : Ct gi X xr k cx s) (h : locB s i n = true) : X.N[i]? = some n ∧ L2.Loc X.env.scope n ∧ (X.fn n = true ∨ X.env.scope.names.lookup n = some .local) := by
  unfold locB at h
  simp only [Bool.and_eq_true, beq_iff_eq] at h
  obtain ⟨h1, h2⟩ := h
  refine ⟨by rw [c.N]; exact h1, ?_⟩
  unfold L2.Loc
  rw [c.sc, c.fn]
  split at h2
  · rename_i q; exact ⟨.inl q, .inr q⟩
  · rename_i q; exact ⟨.inr q, .inl h2⟩
  · cases h2
end
end MI
namespace MI
open PySem PySem.Spec PyProof.Rows L2
/-- a truth by the value: no and, or, not, comparison, if-else -/
def valT : Expr → Bool
  | .UnaryOp _ _ _ => false
  | .BoolOp _ _ _ => false
  | .IfExp _ _ _ _ => false
  | .Compare _ _ _ _ => false
  | _ => true
theorem valT_ok {e : Expr} (h : valT e = true) (env : PySem.Env) : ∀ whole, isTrue e env whole = (do let v ← whole; standAt e.pos; holding [v] (truthy v)) := by
  intro w
  cases e <;> first | rfl | cases h
def noSet : Expr → Bool
  | .Set _ _ _ => false
  | _ => true
theorem noSet_ok {e : Expr} (h : noSet e = true) (env : PySem.Env) : ∀ x, foldedSetIterable e env x = pure x := by
  intro x
  cases e <;> first | rfl | cases h
/-- the right side: no comprehension -/
def plainV : Expr → Bool
  | .ListComp _ _ _ _ => false
  | .SetComp _ _ _ _ => false
  | .DictComp _ _ _ _ _ => false
  | _ => true
def noTup : Expr → Bool
  | .Tuple _ _ _ => false
  | _ => true
theorem sw_plain {e : Expr} (h : plainV e = true) (t : Option Expr) (l : Nat) (env : PySem.Env) : swapsWith e t l env = pure false := by
  cases e <;> first | rfl | cases h
theorem sws_plain {e : Expr} (h : plainV e = true) (t : Expr) (l : Nat) (env : PySem.Env) : swapsWithSole [t] e l env = pure false := sw_plain h _ _ _
theorem st_sub {o i : Expr} {p : Pos} (e : Expr) (env : PySem.Env) : swappedStores [.Subscript o i p] e env = pure none := by
  cases e <;> rfl
theorem st_tup {es : List Expr} {k : Nat} {p : Pos} {e : Expr} (h : noTup e = true) (env : PySem.Env) : swappedStores [.Tuple es k p] e env = pure none := by
  cases e <;> first | rfl | cases h
def swB (s : SC) (y : Str) (p cpos : Pos) (scope : Scope) : Bool := (match s.sc.kind with | .function => true | _ => false) && s.sc.names.lookup y == some .local && p.line == cpos.line && !(scope.names.any fun (n, k) => n == y && (k == .local || k == .cell))
theorem sw_comp {elt : Expr} {gens : List Comprehension} {scope : Scope} {cpos p : Pos} {y : Str} {l : Nat} {env : PySem.Env} {s : SC} (hs : env.scope = s.sc) (h : swB s y p cpos scope = true) : swapsWith (.ListComp elt gens scope cpos) (some (.Name y p)) l env = pure true := by
  unfold swB at h
  simp only [Bool.and_eq_true] at h
  obtain ⟨⟨⟨h1, h2⟩, h3⟩, h4⟩ := h
  have hk : env.scope.kind = .function := by
    rw [hs]
    split at h1
    · assumption
    · cases h1
  show (pure (env.blockKind == .function && env.kindOf y == some .local && p.line == cpos.line && !(scope.names.any fun (n, k) => n == y && (k == .local || k == .cell))) : Sem Bool) = pure true
  have e1 : (env.blockKind == .function) = true := by
    unfold PySem.Env.blockKind
    rw [hk]
    rfl
  have e2 : (env.kindOf y == some .local) = true := by
    show (env.scope.names.lookup y == some .local) = true
    rw [hs]
    exact h2
  rw [e1, e2, h3, h4]
  rfl
def isFn (s : SC) : Bool := (match s.sc.kind with | .function => true | _ => false)
theorem sw_compN {elt : Expr} {gens : List Comprehension} {scope : Scope} {cpos p : Pos} {y : Str} {l : Nat} {env : PySem.Env} {s : SC} (hs : env.scope = s.sc) (hf : isFn s = true) (h : swB s y p cpos scope = false) : swapsWith (.ListComp elt gens scope cpos) (some (.Name y p)) l env = pure false := by
  show (pure (env.blockKind == .function && env.kindOf y == some .local && p.line == cpos.line && !(scope.names.any fun (n, k) => n == y && (k == .local || k == .cell))) : Sem Bool) = pure false
  have e : (env.blockKind == .function && env.kindOf y == some .local && p.line == cpos.line && !(scope.names.any fun (n, k) => n == y && (k == .local || k == .cell))) = swB s y p cpos scope := by
    have hk : env.scope.kind = .function := by
      unfold isFn at hf
      rw [hs]
      split at hf
      · assumption
      · cases hf
    have e1 : (env.blockKind == .function) = true := by
      unfold PySem.Env.blockKind
      rw [hk]
      rfl
    unfold isFn at hf
    unfold swB
    rw [e1, hf, ← hs]
    rfl
  rw [e, h]
/-! ### targets -/
mutual
def chG (s : SC) (t : Tg) (e : Expr) : Bool := match t with
  | .name i => (match e with
    | .Name n _ => locB s i n
    | _ => false)
  | .tup ts => (match e with
    | .Tuple es _ _ => es.all noStar && decide (es.length = ts.length) && chGs s ts es
    | _ => false)
def chGs (s : SC) (ts : List Tg) (es : List Expr) : Bool := match ts with
  | [] => es.isEmpty
  | t :: ts => (match es with
    | [] => false
    | e :: es => chG s t e && chGs s ts es)
end
section
variable {gi : Gi} {X : Cx} {xr : XRep} {k : Nat} {cx : Cxt} {s : SC}
mutual
theorem chG_ok (c : Ct gi X xr k cx s) : ∀ (t : Tg) (e : Expr), chG s t e = true → PG X e (canG X.K t)
  | .name i, e, h => by
    simp only [chG] at h
    split at h
    · obtain ⟨h1, h2, h3⟩ := locB_ok c h
      exact gd_name c.sup.nd h1 h2 h3
    · cases h
  | .tup ts, e, h => by
    simp only [chG] at h
    split at h
    · simp only [Bool.and_eq_true, decide_eq_true_eq] at h
      obtain ⟨⟨h1, h2⟩, h3⟩ := h
      exact gd_tup c.sup.calm (chGs_ok c ts _ h1 h3) h1 h2
    · cases h
theorem chGs_ok (c : Ct gi X xr k cx s) : ∀ (ts : List Tg) (es : List Expr), es.all noStar = true → chGs s ts es = true → PGs X es (canGs X.K ts)
  | [], es, _, h => by
    simp only [chGs] at h
    cases es with
    | nil => exact gds_nil
    | cons e es => cases h
  | t :: ts, es, hs, h => by
    simp only [chGs] at h
    cases es with
    | nil => cases h
    | cons e es =>
      simp only [Bool.and_eq_true] at h
      have hs' : noStar e = true ∧ es.all noStar = true := by simpa using hs
      exact gds_cons (chG_ok c t e h.1) (chGs_ok c ts es hs'.2 h.2) hs'.1
end
end
/-! ### expressions -/
def tyGl (s : SC) (ts : List Ty) : Bool := ts.all fun t => glB s (Str.ofString (tyId t))
def biB (f : Bi) (n : Str) : Bool := (match biId f with
    | some id => n == Str.ofString id
    | none => (match biTy f with
      | some id => n == Str.ofString id
      | none => false))
def kwKeys (kws : List Keyword) : List (Option Str) := kws.map fun k => k.arg
def ownOf (s : SC) (vs : List Nat) : List (Str × Nat) := vs.map fun i => ((s.N[i]?).getD Str.empty, i)
def shapeB (gi : Gi) (f : Nat) (n : Str) (m : Nat) (kws : List Keyword) (src : List Arg) : Bool := match gi.sigs[f]? with
  | some sg => sg.name == n && sg.shapes.any fun sh => sh.n == m && decide (kwKeys kws = sh.ks.map some) && eqAs src sh.src
  | none => false
def starB (gi : Gi) (f : Nat) (n : Str) (m : Nat) : Bool := match gi.sigs[f]? with
  | some sg => sg.name == n && sg.star && decide (sg.ps.length = m + 1)
  | none => false
def lastStar : List Expr → Option (List Expr × Expr)
  | [] => none
  | [.Starred e _] => some ([], e)
  | e :: es => (lastStar es).map fun q => (e :: q.1, q.2)
theorem lastStar_ok : ∀ {es : List Expr} {q : List Expr × Expr}, lastStar es = some q → ∃ p, es = q.1 ++ [.Starred q.2 p]
  | [], q, h => by cases h
  | e :: es, q, h => by
    unfold lastStar at h
    split at h
    · rename_i h2; cases h2
    · rename_i h2
      cases h2
      cases h
      exact ⟨_, rfl⟩
    · rename_i e2 es2 h1 h2
      cases h2
      rw [Option.map_eq_some_iff] at h
      obtain ⟨q2, h3, rfl⟩ := h
      obtain ⟨p, e4⟩ := lastStar_ok h3
      exact ⟨p, by simp [e4]⟩
def isAnd : Ex → Bool
  | .and _ _ => true
  | _ => false
def isOr : Ex → Bool
  | .or _ _ => true
  | _ => false
def lgE : Ex → Bool
  | .and _ _ => true
  | .or _ _ => true
  | .not _ => true
  | .cmp _ _ _ => true
  | .chain _ _ _ _ _ => true
  | .inr _ _ _ => true
  | .bad => true
  | _ => false
mutual
def chE (gi : Gi) (s : SC) (m : Bool) (x : Ex) (e : Expr) : Bool := (lgE x || !m || valT e) && match x with
  | .var i => (match e with
    | .Name n _ => visB s i n
    | _ => false)
  | .int i => (match e with
    | .Constant (.int j) _ _ => i == j
    | _ => false)
  | .str z => (match e with
    | .Constant (.str j) _ _ => j == Str.ofString z
    | _ => false)
  | .bl b => (match e with
    | .Constant (.bool j) _ _ => b == j
    | _ => false)
  | .non => (match e with
    | .Constant .none _ _ => true
    | _ => false)
  | .tup xs => (match e with
    | .Tuple es _ _ => chDs gi s xs es
    | _ => false)
  | .lst xs => (match e with
    | .List es _ => chDs gi s xs es
    | _ => false)
  | .dct kvs => (match e with
    | .Dict [] [] _ => kvs.isEmpty
    | _ => false)
  | .neg a => (match e with
    | .UnaryOp .USub e1 _ => chE gi s false a e1
    | _ => false)
  | .not a => (match e with
    | .UnaryOp .Not e1 _ => chE gi s m a e1
    | _ => false)
  | .bin o a b => (match e with
    | .BinOp e1 p e2 _ => opOk o p && chE gi s false a e1 && chE gi s false b e2
    | _ => false)
  | .cmp o a b => (match e with
    | .Compare e1 [p] [e2] _ => cpOk o p && !(behindInMarks p e2) && chE gi s false a e1 && chE gi s false b e2
    | _ => false)
  | .chain o p a b c => (match e with
    | .Compare e1 [o', p'] [e2, e3] _ => cpOk o o' && cpOk p p' && !(lastMarks [o', p'] [e2, e3]) && chE gi s false a e1 && chE gi s false b e2 && chE gi s false c e3
    | _ => false)
  | .and a b => (match e with
    | .BoolOp .And [e1, e2] _ => chE gi s m a e1 && chE gi s m b e2
    | .BoolOp .And (e1 :: e2 :: e3 :: es) p => chE gi s m a e1 && (!m || isAnd b) && chE gi s m b (.BoolOp .And (e2 :: e3 :: es) p)
    | _ => false)
  | .or a b => (match e with
    | .BoolOp .Or [e1, e2] _ => chE gi s m a e1 && chE gi s m b e2
    | .BoolOp .Or (e1 :: e2 :: e3 :: es) p => chE gi s m a e1 && (!m || isOr b) && chE gi s m b (.BoolOp .Or (e2 :: e3 :: es) p)
    | _ => false)
  | .ite c a b => (match e with
    | .IfExp e1 e2 e3 _ => chE gi s true c e1 && chE gi s false a e2 && chE gi s false b e3
    | _ => false)
  | .idx a i => (match e with
    | .Subscript e1 e2 _ => noSlice e2 && chE gi s false a e1 && chE gi s false i e2
    | _ => false)
  | .sl a lo hi => (match e with
    | .Subscript e1 (.Slice l h none _) _ => chE gi s false a e1 && chO gi s lo l && chO gi s hi h
    | _ => false)
  | .rev a => (match e with
    | .Subscript e1 (.Slice none none (some (.UnaryOp .USub (.Constant (.int 1) _ _) _)) _) _ => chE gi s false a e1
    | _ => false)
  | .isa a ts many => (match e with
    | .Call (.Name n _) [e1, c] [] _ => n == ("isinstance" : Str) && glB s n && noStar e1 && tyGl s ts && chE gi s false a e1 &&
      (if many then (match c with
        | .Tuple es _ _ => tyNms ts es && decide (ts.length ≤ 6)
        | _ => false) else (match ts with
        | [t] => tyNm t c
        | _ => false))
    | _ => false)
  | .bi1 f a => (match e with
    | .Call (.Name n _) [e1] [] _ => (match f with
      | .repr => n == ("repr" : Str)
      | f => biB f n) && glB s n && noStar e1 && chE gi s false a e1
    | _ => false)
  | .bi2 f a b => (match e with
    | .Call (.Name n _) [e1, e2] [] _ => (match f with
      | .max => n == ("max" : Str)
      | .min => n == ("min" : Str)
      | _ => false) && glB s n && noStar e1 && noStar e2 && chE gi s false a e1 && chE gi s false b e2
    | _ => false)
  | .me _ _ _ => false
  | .mu mm i xs => (match e with
    | .Call (.Attribute (.Name y _) nm apos) es [] cpos => nm == muNm mm && visB s i y && (apos.endLine == cpos.line) && es.all noStar && (match xs with
      | [] => es.isEmpty
      | [x] => (match es with
        | [e1] => chE gi s false x e1
        | _ => false)
      | _ => false)
    | _ => false)
  | .call f xs refs src => (match e with
    | .Call (.Name n _) es kws _ => glB s n && es.all noStar && shapeB gi f n es.length kws src && chA gi s xs es kws
    | _ => false)
  | .callS f xs st refs m => (match e with
    | .Call (.Name n _) (e0 :: es) [] _ => glB s n && starB gi f n m && noStar e0 && (match st with
      | none => chDs gi s xs (e0 :: es)
      | some x => (match lastStar es with
        | some q => chDs gi s xs (e0 :: q.1) && chE gi s false x q.2
        | none => false))
    | _ => false)
  | .comp elt tg it cond => (match e with
    | .ListComp e1 [⟨tge, ie, ifs, 0⟩] scope _ => blkC s.N s.sc scope (ownOf s tg.vars) && noSet ie && chG (s.blk scope) tg tge && chI gi s it tge ie && chE gi (s.blk scope) false elt e1 && (match cond with
      | none => ifs.isEmpty
      | some c => (match ifs with
        | [c'] => chE gi (s.blk scope) true c c'
        | _ => false))
    | _ => false)
  | .glo z d => (match e with
    | .Name n _ => n == Str.ofString z && glB s n && gi.consts.any fun p => p.1 == z && eqD d p.2
    | _ => false)
  | .lit it t => (match e with
    | .Call (.Name n _) [.Call (.Name r _) [e1] [] _] [] _ => n == (if t then ("tuple" : Str) else "list") && glB s n && r == ("range" : Str) && glB s r && noStar e1 && (match it with
      | .rng [x] => chE gi s false x e1
      | _ => false)
    | _ => false)
  | .sset x => (match e with
    | .Call (.Name n _) [.Call (.Name r _) [e1] [] _] [] _ => n == ("sorted" : Str) && glB s n && r == ("set" : Str) && glB s r && noStar e1 && chE gi s false x e1
    | _ => false)
  | .join z x => (match e with
    | .Call (.Attribute (.Constant (.str j) _ _) nm apos) [e1] [] cpos => j == Str.ofString z && nm == ("join" : Str) && (apos.endLine == cpos.line) && noStar e1 && chE gi s false x e1
    | _ => false)
  | .lzip x y => (match e with
    | .Call (.Name n _) [.Call (.Name r _) [e1, e2] [] _] [] _ => n == ("list" : Str) && glB s n && r == ("zip" : Str) && glB s r && noStar e1 && noStar e2 && chE gi s false x e1 && chE gi s false y e2
    | _ => false)
  | .inr neg x ys => (match e with
    | .Compare e1 [p] [.Call (.Name r rp) es [] rpos] _ => decide (p = inOp neg) && !(behindInMarks (inOp neg) (.Call (.Name r rp) es [] rpos)) && r == ("range" : Str) && glB s r && chE gi s false x e1 && (match ys with
      | [y] => (match es with
        | [e2] => noStar e2 && chE gi s false y e2
        | _ => false)
      | [y, z] => (match es with
        | [e2, e3] => noStar e2 && noStar e3 && chE gi s false y e2 && chE gi s false z e3
        | _ => false)
      | _ => false)
    | _ => false)
  | .bad => true
def chO (gi : Gi) (s : SC) (x : Option Ex) (e : Option Expr) : Bool := match x with
  | none => e.isNone
  | some x => (match e with
    | none => false
    | some e => chE gi s false x e)
def chDs (gi : Gi) (s : SC) (xs : List Ex) (es : List Expr) : Bool := match xs with
  | [] => es.isEmpty
  | x :: xs => (match es with
    | [] => false
    | e :: es => noStar e && chE gi s false x e && chDs gi s xs es)
def chA (gi : Gi) (s : SC) (xs : List Ex) (es : List Expr) (kws : List Keyword) : Bool := match xs with
  | [] => es.isEmpty && kws.isEmpty
  | x :: xs => (match es with
    | e :: es => chE gi s false x e && chA gi s xs es kws
    | [] => (match kws with
      | [] => false
      | ⟨_, e, _⟩ :: kws => chE gi s false x e && chA gi s xs [] kws))
def chI (gi : Gi) (s : SC) (it : It) (tg : Expr) (e : Expr) : Bool := match it with
  | .seq x => chE gi s false x e
  | .rng xs => (match e with
    | .Call (.Name n _) es [] _ => n == ("range" : Str) && glB s n && decide (1 ≤ es.length) && decide (es.length ≤ 3) && chDs gi s xs es
    | _ => false)
  | .enum x => (match e with
    | .Call (.Name n _) [e1] [] _ => n == ("enumerate" : Str) && glB s n && !(noTup tg) && noStar e1 && chE gi s false x e1
    | _ => false)
  | .zip a b => (match e with
    | .Call (.Name n _) [e1, e2] [] _ => n == ("zip" : Str) && glB s n && !(noTup tg) && noStar e1 && noStar e2 && chE gi s false a e1 && chE gi s false b e2
    | _ => false)
end
end MI
namespace MI
open PySem PySem.Spec PyProof.Rows L2
theorem evRs_len (cx : Cxt) : ∀ (xs : List Ex) (refs : List Bool) {ρ ρ' : Env} {rs : List R}, evRs cx xs refs ρ = .ok rs ρ' → rs.length = xs.length
  | [], refs, ρ, ρ', rs, h => by simp only [evRs] at h; cases h; rfl
  | x :: xs, refs, ρ, ρ', rs, h => by
    simp only [evRs] at h
    obtain ⟨r, ρ1, _, h⟩ := out_bind h
    obtain ⟨rs', ρ2, h2, h⟩ := out_bind h
    cases h
    simp [evRs_len cx xs refs.tail h2]
theorem kw_map (pos : Pos) (env : PySem.Env) : ∀ kws : List Keyword, (backToKw pos (keywordEach kws env)).map (·.1) = kwKeys kws
  | [] => rfl
  | ⟨n, v, p⟩ :: kws => by
    show n :: (backToKw pos (keywordEach kws env)).map (·.1) = n :: kwKeys kws
    rw [kw_map pos env kws]
theorem kw_facts {pos : Pos} {env : PySem.Env} {kws : List Keyword} {ks : List Str} (h : kwKeys kws = ks.map some) : (backToKw pos (keywordEach kws env)).all (·.1.isSome) = true ∧ (backToKw pos (keywordEach kws env)).filterMap (·.1) = ks ∧ (backToKw pos (keywordEach kws env)).any (·.1.isNone) = false := by
  have key : ∀ (l : List (Option Str × Sem Value)) (ks : List Str), l.map (·.1) = ks.map some → l.all (·.1.isSome) = true ∧ l.filterMap (·.1) = ks ∧ l.any (·.1.isNone) = false := by
    intro l
    induction l with
    | nil => intro ks h; cases ks <;> first | exact ⟨rfl, rfl, rfl⟩ | cases h
    | cons a l ih =>
      intro ks h
      cases ks with
      | nil => cases h
      | cons y ks =>
        simp only [List.map_cons, List.cons.injEq] at h
        obtain ⟨h1, h2⟩ := h
        obtain ⟨i1, i2, i3⟩ := ih ks h2
        refine ⟨by simp [h1, i1], by simp [h1, i2], by simp [h1, i3]⟩
  exact key _ ks (by rw [kw_map]; exact h)
theorem mem_noB {n : Str} (h : n ∈ noBs) {gi : Gi} {X : Cx} {xr : XRep} {k : Nat} {cx : Cxt} {s : SC} (c : Ct gi X xr k cx s) : X.mg n = none := c.sup.noB n h
theorem ty_noB (t : Ty) : Str.ofString (tyId t) ∈ noBs := by cases t <;> decide +kernel
theorem id_noB {f : Bi} {id : String} (h : biId f = some id ∨ biTy f = some id) : Str.ofString id ∈ noBs := by
  rcases h with h | h <;> cases f <;> first | (cases h; done) | (cases h; decide +kernel)
theorem id_boot {f : Bi} {id : String} (h : biId f = some id) : bootBuiltins (Str.ofString id) = some (.builtin id) ∧ Str.ofString id ≠ "__name__" := by
  cases f <;> first | (cases h; done) | (cases h; exact ⟨by decide +kernel, by decide +kernel⟩)
theorem ty_boot2 {f : Bi} {id : String} (h : biTy f = some id) : bootBuiltins (Str.ofString id) = some (.type id) ∧ Str.ofString id ≠ "__name__" := by
  cases f <;> first | (cases h; done) | (cases h; exact ⟨by decide +kernel, by decide +kernel⟩)
section
variable {gi : Gi} {xr : XRep} {k : Nat} {cx : Cxt}
theorem bi1_ok {X : Cx} {W : WX} {s : SC} {f : Bi} {n : Str} {a : Expr} {x : Ex} {p pos : Pos} (c : Ct gi X xr k cx s) (hn : biB f n = true) (hg : glB s n = true) (hs : noStar a = true) (ha : PD X xr W a (evE cx x)) : PD X xr W (.Call (.Name n p) [a] [] pos) (evE cx (.bi1 f x)) := by
  obtain ⟨g1, g2⟩ := glB_ok c hg
  unfold biB at hn
  split at hn
  · rename_i id h
    have : n = Str.ofString id := by simpa using hn
    subst this
    exact pd_bi1 c.sup.room c.sup.calm h g1 (c.sup.noB _ (id_noB (.inl h))) (id_boot h).1 (id_boot h).2 g2 hs ha
  · split at hn
    · rename_i id h
      have : n = Str.ofString id := by simpa using hn
      subst this
      exact pd_ty1 h g1 (c.sup.noB _ (id_noB (.inr h))) (ty_boot2 h).1 (ty_boot2 h).2 g2 hs ha
    · cases hn
theorem own_ix {X : Cx} {s : SC} : ∀ vs : List Nat, (ownOf s vs).map (·.2) = vs
  | [] => rfl
  | v :: vs => by
    show v :: (ownOf s vs).map (·.2) = v :: vs
    rw [own_ix (X := X) vs]
theorem call_ok {X : Cx} {W : WX} {s : SC} {f : Nat} {n : Str} {es : List Expr} {kws : List Keyword} {xs1 ys : List Ex} {refs : List Bool} {src : List Arg} {p pos : Pos} (c : Ct gi X xr k cx s) (tk : Takes X W) (hg : glB s n = true) (hs : es.all noStar = true) (hsh : shapeB gi f n es.length kws src = true)
    (h1 : xs1.length = es.length) (h2 : ys.length = kws.length) (ha : PDr X xr W es (evRs cx xs1 refs)) (hk : PDk X xr W kws (evRs cx ys (refs.drop xs1.length))) : PD X xr W (.Call (.Name n p) es kws pos) (evE cx (.call f (xs1 ++ ys) refs src)) := by
  obtain ⟨g1, g2⟩ := glB_ok c hg
  unfold shapeB at hsh
  split at hsh
  · rename_i sg hsg
    simp only [Bool.and_eq_true, List.any_eq_true, beq_iff_eq, decide_eq_true_eq] at hsh
    obtain ⟨e1, sh, hm, ⟨e2, e3⟩, e4⟩ := hsh
    obtain ⟨fa, fd, hG, hmg, hkp, hb⟩ := (c.sup.fns f sg hsg).ex
    obtain ⟨g, gV, kb, pick⟩ := hb sh hm
    have e4' := eqAs_ok e4
    subst e4'
    subst e1
    obtain ⟨ta, pa, pn, ka⟩ := ha.run
    obtain ⟨tb, pb, kb2⟩ := hk.run
    obtain ⟨q1, q2, q3⟩ := kw_facts (pos := pos) (env := X.env) e3
    have lks : ys.length = sh.ks.length := by
      have := congrArg List.length e3
      simp [kwKeys] at this
      omega
    have run := call_run (m := sh.ks.length) (n := sh.n) (f := f) (gV := gV) (src := sh.src) ka kb2 (fun h => by rw [evRs_len cx _ _ h, h1, e2]) (fun h => by rw [evRs_len cx _ _ h, lks]) pick
    cases es with
    | nil =>
      have := pn rfl
      subst this
      have e2' : sh.n = 0 := e2
      refine ⟨_, pe_callM0 (n := sh.n) hG c.sup.gd c.sup.room g1 hmg hkp kb tk pb q1 q2 q3 g2, ?_⟩
      exact run
    | cons e es => exact ⟨_, pe_callM hG c.sup.gd c.sup.room g1 hmg hkp kb tk pa pb hs q1 q2 q3 g2, run⟩
  · cases hsh
theorem star_ok {X : Cx} {W : WX} {s : SC} {f m : Nat} {n : Str} {e : Expr} {es : List Expr} {xs : List Ex} {st : Option Ex} {refs : List Bool} {p pos : Pos} (c : Ct gi X xr k cx s) (tk : Takes X W) (hg : glB s n = true) (hst : starB gi f n m = true)
    (hx : noStar e = true ∧ PDx X xr W (e :: es) (evRx cx xs st refs)) : PD X xr W (.Call (.Name n p) (e :: es) [] pos) (evE cx (.callS f xs st refs m)) := by
  obtain ⟨g1, g2⟩ := glB_ok c hg
  unfold starB at hst
  split at hst
  · rename_i sg hsg
    simp only [Bool.and_eq_true, beq_iff_eq, decide_eq_true_eq] at hst
    obtain ⟨⟨e1, e2⟩, e3⟩ := hst
    obtain ⟨fa, hG, hmg, hkp⟩ := (c.sup.stars f sg hsg e2).ex
    subst e1
    rw [show sg.ps.length - 1 = m by omega] at hG
    obtain ⟨t, pa, ka⟩ := hx.2.run
    exact ⟨_, pe_callX hG c.sup.gd c.sup.room g1 hmg hkp tk pa hx.1 g2, star_run ka⟩
  · cases hst
end
end MI
namespace MI
open PySem PySem.Spec PyProof.Rows L2
section
variable {gi : Gi} {xr : XRep} {k : Nat} {cx : Cxt}
theorem pdt_of {X : Cx} {W : WX} {e : Expr} {x : Ex} (hx : ∀ ρ, evT cx x ρ = (evE cx x ρ).bind truthR) (hv : valT e = true) (h : PD X xr W e (evE cx x)) : PDt X xr W e (evT cx x) := (pdt_val (valT_ok hv X.env) h).ev fun ρ => (hx ρ).symm
abbrev Res (X : Cx) (xr : XRep) (W : WX) (cx : Cxt) (fl : Bool) (x : Ex) (e : Expr) : Prop := match fl with
  | true => PDt X xr W e (evT cx x) ∧ ((isAnd x || isOr x) = true → PDw X xr W e (evT cx x))
  | false => PD X xr W e (evE cx x)
theorem res_of {X : Cx} {W : WX} {fl : Bool} {e : Expr} {x : Ex} (hx : ∀ ρ, evT cx x ρ = (evE cx x ρ).bind truthR) (hn : (isAnd x || isOr x) = false) (hv : (!fl || valT e) = true) (h : PD X xr W e (evE cx x)) : Res X xr W cx fl x e := by
  cases fl with
  | true => exact ⟨pdt_of hx (by simpa using hv) h, fun z => by rw [hn] at z; cases z⟩
  | false => exact h
mutual
theorem chE_ok : ∀ (x : Ex) {X : Cx} {W : WX} {s : SC} {e : Expr} {fl : Bool}, Ct gi X xr k cx s → Takes X W → chE gi s fl x e = true → Res X xr W cx fl x e
  | .var i, X, W, s, e, fl, c, t, h => by
    simp only [chE, lgE, Bool.false_or] at h
    rw [Bool.and_eq_true] at h
    obtain ⟨hv, h⟩ := h
    refine res_of (fun ρ => by simp only [evT]) rfl hv ?_
    split at h
    · obtain ⟨h1, h2, h3, h4⟩ := visB_ok c h
      exact pd_var h1 h2 h3 h4 cx
    · cases h
  | .int i, X, W, s, e, fl, c, t, h => by
    simp only [chE, lgE, Bool.false_or] at h
    rw [Bool.and_eq_true] at h
    obtain ⟨hv, h⟩ := h
    refine res_of (fun ρ => by simp only [evT]) rfl hv ?_
    split at h
    · have := eq_of_beq h
      subst this
      exact pd_int cx
    · cases h
  | .str z, X, W, s, e, fl, c, t, h => by
    simp only [chE, lgE, Bool.false_or] at h
    rw [Bool.and_eq_true] at h
    obtain ⟨hv, h⟩ := h
    refine res_of (fun ρ => by simp only [evT]) rfl hv ?_
    split at h
    · have := eq_of_beq h
      subst this
      exact pd_str cx
    · cases h
  | .bl b, X, W, s, e, fl, c, t, h => by
    simp only [chE, lgE, Bool.false_or] at h
    rw [Bool.and_eq_true] at h
    obtain ⟨hv, h⟩ := h
    refine res_of (fun ρ => by simp only [evT]) rfl hv ?_
    split at h
    · have := eq_of_beq h
      subst this
      exact pd_bl cx
    · cases h
  | .non, X, W, s, e, fl, c, t, h => by
    simp only [chE, lgE, Bool.false_or] at h
    rw [Bool.and_eq_true] at h
    obtain ⟨hv, h⟩ := h
    refine res_of (fun ρ => by simp only [evT]) rfl hv ?_
    split at h
    · exact pd_non cx
    · cases h
  | .tup xs, X, W, s, e, fl, c, t, h => by
    simp only [chE, lgE, Bool.false_or] at h
    rw [Bool.and_eq_true] at h
    obtain ⟨hv, h⟩ := h
    refine res_of (fun ρ => by simp only [evT]) rfl hv ?_
    split at h
    · exact pd_tup (chDs_ok xs c t h)
    · cases h
  | .lst xs, X, W, s, e, fl, c, t, h => by
    simp only [chE, lgE, Bool.false_or] at h
    rw [Bool.and_eq_true] at h
    obtain ⟨hv, h⟩ := h
    refine res_of (fun ρ => by simp only [evT]) rfl hv ?_
    split at h
    · exact pd_lst (chDs_ok xs c t h)
    · cases h
  | .dct kvs, X, W, s, e, fl, c, t, h => by
    simp only [chE, lgE, Bool.false_or] at h
    rw [Bool.and_eq_true] at h
    obtain ⟨hv, h⟩ := h
    refine res_of (fun ρ => by simp only [evT]) rfl hv ?_
    split at h
    · cases kvs with
      | nil => exact pd_dct
      | cons a b => cases h
    · cases h
  | .neg a, X, W, s, e, fl, c, t, h => by
    simp only [chE, lgE, Bool.false_or] at h
    rw [Bool.and_eq_true] at h
    obtain ⟨hv, h⟩ := h
    refine res_of (fun ρ => by simp only [evT]) rfl hv ?_
    split at h
    · exact pd_neg (chE_ok a c t h)
    · cases h
  | .not a, X, W, s, e, fl, c, t, h => by
    simp only [chE, lgE, Bool.true_or, Bool.true_and] at h
    split at h
    · cases fl with
      | true => exact ⟨pdt_not (chE_ok a (fl := true) c t h).1, fun z => by cases z⟩
      | false => exact pd_not (chE_ok a (fl := false) c t h)
    · cases h
  | .bin o a b, X, W, s, e, fl, c, t, h => by
    simp only [chE, lgE, Bool.false_or] at h
    rw [Bool.and_eq_true] at h
    obtain ⟨hv, h⟩ := h
    refine res_of (fun ρ => by simp only [evT]) rfl hv ?_
    split at h
    · simp only [Bool.and_eq_true] at h
      exact pd_bin h.1.1 (chE_ok a c t h.1.2) (chE_ok b c t h.2)
    · cases h
  | .cmp o a b, X, W, s, e, fl, c, t, h => by
    simp only [chE, lgE, Bool.true_or, Bool.true_and] at h
    split at h
    · simp only [Bool.and_eq_true, Bool.not_eq_true'] at h
      have ha := chE_ok a (fl := false) c t h.1.2
      have hb := chE_ok b (fl := false) c t h.2
      cases fl with
      | true => exact ⟨(pdt_cmp c.sup.room h.1.1.1 h.1.1.2 ha hb).ev fun ρ => by simp only [evT], fun z => by cases z⟩
      | false => exact pd_cmp c.sup.room h.1.1.1 h.1.1.2 ha hb
    · cases h
  | .chain o p a b d, X, W, s, e, fl, c, t, h => by
    simp only [chE, lgE, Bool.true_or, Bool.true_and] at h
    split at h
    · simp only [Bool.and_eq_true, Bool.not_eq_true'] at h
      have ha := chE_ok a (fl := false) c t h.1.1.2
      have hb := chE_ok b (fl := false) c t h.1.2
      have hd := chE_ok d (fl := false) c t h.2
      cases fl with
      | true => exact ⟨(pdt_chain c.sup.room h.1.1.1.1.1 h.1.1.1.1.2 h.1.1.1.2 ha hb hd).ev fun ρ => by simp only [evT], fun z => by cases z⟩
      | false => exact pd_chain c.sup.room h.1.1.1.1.1 h.1.1.1.1.2 h.1.1.1.2 ha hb hd
    · cases h
  | .and a b, X, W, s, e, fl, c, t, h => by
    simp only [chE, lgE, Bool.true_or, Bool.true_and] at h
    cases fl with
    | true =>
      have q : PDw X xr W e (evT cx (.and a b)) := by
        split at h
        · simp only [Bool.and_eq_true] at h
          exact pdw_and (chE_ok a (fl := true) c t h.1).1 (pdw_and1 (chE_ok b (fl := true) c t h.2).1)
        · simp only [Bool.and_eq_true, Bool.not_true, Bool.false_or] at h
          exact pdw_and (chE_ok a (fl := true) c t h.1.1).1 ((chE_ok b (fl := true) c t h.2).2 (by simp [h.1.2]))
        · cases h
      exact ⟨q.pt, fun _ => q⟩
    | false =>
      show PD X xr W e _
      split at h
      · simp only [Bool.and_eq_true] at h
        exact pd_and (chE_ok a (fl := false) c t h.1) (pd_one (chE_ok b (fl := false) c t h.2))
      · simp only [Bool.and_eq_true] at h
        exact pd_and (chE_ok a (fl := false) c t h.1.1) (chE_ok b (fl := false) c t h.2)
      · cases h
  | .or a b, X, W, s, e, fl, c, t, h => by
    simp only [chE, lgE, Bool.true_or, Bool.true_and] at h
    cases fl with
    | true =>
      have q : PDw X xr W e (evT cx (.or a b)) := by
        split at h
        · simp only [Bool.and_eq_true] at h
          exact pdw_or (chE_ok a (fl := true) c t h.1).1 (pdw_or1 (chE_ok b (fl := true) c t h.2).1)
        · simp only [Bool.and_eq_true, Bool.not_true, Bool.false_or] at h
          exact pdw_or (chE_ok a (fl := true) c t h.1.1).1 ((chE_ok b (fl := true) c t h.2).2 (by simp [h.1.2]))
        · cases h
      exact ⟨q.pt, fun _ => q⟩
    | false =>
      show PD X xr W e _
      split at h
      · simp only [Bool.and_eq_true] at h
        exact pd_or (chE_ok a (fl := false) c t h.1) (pd_one (chE_ok b (fl := false) c t h.2))
      · simp only [Bool.and_eq_true] at h
        exact pd_or (chE_ok a (fl := false) c t h.1.1) (chE_ok b (fl := false) c t h.2)
      · cases h
  | .ite d a b, X, W, s, e, fl, c, t, h => by
    simp only [chE, lgE, Bool.false_or] at h
    rw [Bool.and_eq_true] at h
    obtain ⟨hv, h⟩ := h
    refine res_of (fun ρ => by simp only [evT]) rfl hv ?_
    split at h
    · simp only [Bool.and_eq_true] at h
      exact pd_ite (chE_ok d (fl := true) c t h.1.1).1 (chE_ok a c t h.1.2) (chE_ok b c t h.2)
    · cases h
  | .idx a i, X, W, s, e, fl, c, t, h => by
    simp only [chE, lgE, Bool.false_or] at h
    rw [Bool.and_eq_true] at h
    obtain ⟨hv, h⟩ := h
    refine res_of (fun ρ => by simp only [evT]) rfl hv ?_
    split at h
    · simp only [Bool.and_eq_true] at h
      exact pd_idx (plain_ix h.1.1) (chE_ok a c t h.1.2) (chE_ok i c t h.2)
    · cases h
  | .sl a lo hi, X, W, s, e, fl, c, t, h => by
    simp only [chE, lgE, Bool.false_or] at h
    rw [Bool.and_eq_true] at h
    obtain ⟨hv, h⟩ := h
    refine res_of (fun ρ => by simp only [evT]) rfl hv ?_
    split at h
    · simp only [Bool.and_eq_true] at h
      exact pd_sl (chE_ok a c t h.1.1) (chO_ok lo c t h.1.2) (chO_ok hi c t h.2)
    · cases h
  | .rev a, X, W, s, e, fl, c, t, h => by
    simp only [chE, lgE, Bool.false_or] at h
    rw [Bool.and_eq_true] at h
    obtain ⟨hv, h⟩ := h
    refine res_of (fun ρ => by simp only [evT]) rfl hv ?_
    split at h
    · exact pd_rev (chE_ok a c t h)
    · cases h
  | .isa a ts many, X, W, s, e, fl, c, t, h => by
    simp only [chE, lgE, Bool.false_or] at h
    rw [Bool.and_eq_true] at h
    obtain ⟨hv, h⟩ := h
    refine res_of (fun ρ => by simp only [evT]) rfl hv ?_
    split at h
    · rename_i n p e1 d p2
      simp only [Bool.and_eq_true, beq_iff_eq] at h
      obtain ⟨⟨⟨⟨⟨h1, h2⟩, h3⟩, h4⟩, h5⟩, h6⟩ := h
      subst h1
      have g := glB_ok c h2
      have gt : ∀ t ∈ ts, Gl X (Str.ofString (tyId t)) ∧ X.mg (Str.ofString (tyId t)) = none := fun t ht => ⟨(glB_ok c (List.all_eq_true.mp h4 t ht)).1, c.sup.noB _ (ty_noB t)⟩
      have nb : X.mg ("isinstance" : Str) = none := c.sup.noB _ (by decide +kernel)
      cases many with
      | true =>
        rw [if_pos rfl] at h6
        split at h6
        · simp only [Bool.and_eq_true, decide_eq_true_eq] at h6
          exact pd_isa2 g.1 nb gt h6.1 h6.2 h3 (chE_ok a c t h5)
        · cases h6
      | false =>
        rw [if_neg (by decide)] at h6
        split at h6
        · rename_i t1
          obtain ⟨k1, k2⟩ := gt t1 (by simp)
          exact pd_isa1 g.1 nb k1 k2 h6 h3 (chE_ok a c t h5)
        · cases h6
    · cases h
  | .bi1 f a, X, W, s, e, fl, c, t, h => by
    simp only [chE, lgE, Bool.false_or] at h
    rw [Bool.and_eq_true] at h
    obtain ⟨hv, h⟩ := h
    refine res_of (fun ρ => by simp only [evT]) rfl hv ?_
    split at h
    · rename_i n p e1 p2
      simp only [Bool.and_eq_true] at h
      obtain ⟨⟨⟨h1, h2⟩, h3⟩, h4⟩ := h
      have ha := chE_ok a c t h4
      split at h1
      · have := eq_of_beq h1
        subst this
        exact pd_repr c.sup.sys c.sup.room c.sup.gd (glB_ok c h2).1 (c.sup.noB _ (by decide +kernel)) h3 ha
      · exact bi1_ok c h1 h2 h3 ha
    · cases h
  | .bi2 f a b, X, W, s, e, fl, c, t, h => by
    simp only [chE, lgE, Bool.false_or] at h
    rw [Bool.and_eq_true] at h
    obtain ⟨hv, h⟩ := h
    refine res_of (fun ρ => by simp only [evT]) rfl hv ?_
    split at h
    · rename_i n p e1 e2 p2
      simp only [Bool.and_eq_true] at h
      obtain ⟨⟨⟨⟨⟨h1, h2⟩, h3⟩, h4⟩, h5⟩, h6⟩ := h
      have ha := chE_ok a c t h5
      have hb := chE_ok b c t h6
      have g := glB_ok c h2
      split at h1
      · have := eq_of_beq h1
        subst this
        exact pd_bi2 c.sup.calm (f := .max) rfl (.inl rfl) g.1 (c.sup.noB _ (by decide +kernel)) (by decide +kernel) (by decide +kernel) g.2 h3 h4 ha hb
      · have := eq_of_beq h1
        subst this
        exact pd_bi2 c.sup.calm (f := .min) rfl (.inr rfl) g.1 (c.sup.noB _ (by decide +kernel)) (by decide +kernel) (by decide +kernel) g.2 h3 h4 ha hb
      · cases h1
    · cases h
  | .me m a es, X, W, s, e, fl, c, t, h => by
    simp only [chE, Bool.and_false] at h
    cases h
  | .mu m i [], X, W, s, e, fl, c, t, h => by
    unfold chE at h
    simp only [lgE, Bool.false_or] at h
    rw [Bool.and_eq_true] at h
    obtain ⟨hv, h⟩ := h
    refine res_of (fun ρ => by simp only [evT]) rfl hv ?_
    split at h
    · rename_i y p nm apos es cpos
      simp only [Bool.and_eq_true] at h
      obtain ⟨⟨⟨⟨h1, h2⟩, h3⟩, h4⟩, h5⟩ := h
      have := eq_of_beq h1
      subst this
      obtain ⟨v1, v2, v3, v4⟩ := visB_ok c h2
      have : es = [] := by simpa using h5
      subst this
      exact pd_mu0 v1 v2 v3 v4 h3
    · cases h
  | .mu m i [x], X, W, s, e, fl, c, t, h => by
    unfold chE at h
    simp only [lgE, Bool.false_or] at h
    rw [Bool.and_eq_true] at h
    obtain ⟨hv, h⟩ := h
    refine res_of (fun ρ => by simp only [evT]) rfl hv ?_
    split at h
    · rename_i y p nm apos es cpos
      simp only [Bool.and_eq_true] at h
      obtain ⟨⟨⟨⟨h1, h2⟩, h3⟩, h4⟩, h5⟩ := h
      have := eq_of_beq h1
      subst this
      obtain ⟨v1, v2, v3, v4⟩ := visB_ok c h2
      split at h5
      · exact pd_mu1 v1 v2 v3 v4 (by simpa using h4) h3 (chE_ok x c t h5)
      · cases h5
    · cases h
  | .mu m i (_ :: _ :: _), X, W, s, e, fl, c, t, h => by
    unfold chE at h
    simp only [lgE, Bool.false_or] at h
    rw [Bool.and_eq_true] at h
    obtain ⟨hv, h⟩ := h
    split at h
    · simp at h
    · cases h
  | .call f xs refs src, X, W, s, e, fl, c, t, h => by
    simp only [chE, lgE, Bool.false_or] at h
    rw [Bool.and_eq_true] at h
    obtain ⟨hv, h⟩ := h
    refine res_of (fun ρ => by simp only [evT]) rfl hv ?_
    split at h
    · simp only [Bool.and_eq_true] at h
      obtain ⟨⟨⟨h1, h2⟩, h3⟩, h4⟩ := h
      obtain ⟨xs1, ys, rfl, l1, l2, ha, hk⟩ := chA_ok xs c t h2 h4
      exact call_ok c t h1 h2 h3 l1 l2 (ha refs) (hk _)
    · cases h
  | .callS f xs none refs m, X, W, s, e, fl, c, t, h => by
    unfold chE at h
    simp only [lgE, Bool.false_or] at h
    rw [Bool.and_eq_true] at h
    obtain ⟨hv, h⟩ := h
    refine res_of (fun ρ => by simp only [evT]) rfl hv ?_
    split at h
    · simp only [Bool.and_eq_true] at h
      obtain ⟨⟨⟨h1, h2⟩, h3⟩, h4⟩ := h
      have := chX_ok xs (st := none) (rest := []) (refs := refs) c t h4 fun _ => pdx_nil
      rw [List.append_nil] at this
      exact star_ok c t h1 h2 ⟨h3, this⟩
    · cases h
  | .callS f xs (some x) refs m, X, W, s, e, fl, c, t, h => by
    unfold chE at h
    simp only [lgE, Bool.false_or] at h
    rw [Bool.and_eq_true] at h
    obtain ⟨hv, h⟩ := h
    refine res_of (fun ρ => by simp only [evT]) rfl hv ?_
    split at h
    · simp only [Bool.and_eq_true] at h
      obtain ⟨⟨⟨h1, h2⟩, h3⟩, h4⟩ := h
      split at h4
      · rename_i q hq
        obtain ⟨p, rfl⟩ := lastStar_ok hq
        rw [Bool.and_eq_true] at h4
        exact star_ok c t h1 h2 ⟨h3, chX_ok xs (st := some x) (refs := refs) c t h4.1 fun _ => pdx_star (chE_ok x c t h4.2)⟩
      · cases h4
    · cases h
  | .comp elt tg it none, X, W, s, e, fl, c, t, h => by
    unfold chE at h
    simp only [lgE, Bool.false_or] at h
    rw [Bool.and_eq_true] at h
    obtain ⟨hv, h⟩ := h
    refine res_of (fun ρ => by simp only [evT]) rfl hv ?_
    split at h
    · rename_i e1 tge ie ifs scope pos
      simp only [Bool.and_eq_true] at h
      obtain ⟨⟨⟨⟨⟨h1, h2⟩, h3⟩, h4⟩, h5⟩, h6⟩ := h
      refine pd_comp c.sup.calm c.sup.nd (chI_ok it c t h4) (own := ownOf s tg.vars) (by rw [c.N, c.sc]; exact blkOk_by h1) (own_ix (X := X) _) (fun s0 H C cl fp => chG_ok (c.blk scope s0 H C cl fp) tg tge h3) (fun s0 H C cl fp => ?_) (fun s0 H C cl fp => chE_ok elt (c.blk scope s0 H C cl fp) takes0 h5) (noSet_ok h2 _)
      have : ifs = [] := by simpa using h6
      subst this
      exact pdc_nil
    · cases h
  | .comp elt tg it (some d), X, W, s, e, fl, c, t, h => by
    unfold chE at h
    simp only [lgE, Bool.false_or] at h
    rw [Bool.and_eq_true] at h
    obtain ⟨hv, h⟩ := h
    refine res_of (fun ρ => by simp only [evT]) rfl hv ?_
    split at h
    · rename_i e1 tge ie ifs scope pos
      simp only [Bool.and_eq_true] at h
      obtain ⟨⟨⟨⟨⟨h1, h2⟩, h3⟩, h4⟩, h5⟩, h6⟩ := h
      refine pd_comp c.sup.calm c.sup.nd (chI_ok it c t h4) (own := ownOf s tg.vars) (by rw [c.N, c.sc]; exact blkOk_by h1) (own_ix (X := X) _) (fun s0 H C cl fp => chG_ok (c.blk scope s0 H C cl fp) tg tge h3) (fun s0 H C cl fp => ?_) (fun s0 H C cl fp => chE_ok elt (c.blk scope s0 H C cl fp) takes0 h5) (noSet_ok h2 _)
      split at h6
      · exact pdc_one (chE_ok d (fl := true) (c.blk scope s0 H C cl fp) takes0 h6).1
      · cases h6
    · cases h
  | .glo z d, X, W, s, e, fl, c, t, h => by
    simp only [chE, lgE, Bool.false_or] at h
    rw [Bool.and_eq_true] at h
    obtain ⟨hv, h⟩ := h
    refine res_of (fun ρ => by simp only [evT]) rfl hv ?_
    split at h
    · simp only [Bool.and_eq_true, List.any_eq_true, beq_iff_eq] at h
      obtain ⟨⟨h1, h2⟩, q, hq, h3, h4⟩ := h
      have g := glB_ok c h2
      obtain ⟨v, u, k1, k2, k3⟩ := c.sup.glo q hq
      have := eqD_ok _ _ h4
      subst this h3 h1
      exact pd_glo g.1 k1 k2 g.2 k3
    · cases h
  | .lit (.rng [x]) b, X, W, s, e, fl, c, t, h => by
    unfold chE at h
    simp only [lgE, Bool.false_or] at h
    rw [Bool.and_eq_true] at h
    obtain ⟨hv, h⟩ := h
    refine res_of (fun ρ => by simp only [evT]) rfl hv ?_
    split at h
    · simp only [Bool.and_eq_true, beq_iff_eq] at h
      obtain ⟨⟨⟨⟨⟨h1, h2⟩, h3⟩, h4⟩, h5⟩, h6⟩ := h
      subst h3
      have nb : ∀ {n : Str}, n = (if b then ("tuple" : Str) else "list") → X.mg n = none := fun e => by
        subst e
        cases b
        · exact c.sup.noB _ (by decide +kernel)
        · exact c.sup.noB _ (by decide +kernel)
      exact pd_lit1 c.sup.calm (h1.trans (by cases b <;> rfl)) (glB_ok c h2).1 (nb h1) (glB_ok c h4).1 (c.sup.noB _ (by decide +kernel)) h5 (chE_ok x (fl := false) c t h6)
    · cases h
  | .lit (.rng []) b, X, W, s, e, fl, c, t, h => by
    unfold chE at h
    simp only [lgE, Bool.false_or] at h
    rw [Bool.and_eq_true] at h
    obtain ⟨hv, h⟩ := h
    split at h
    · simp at h
    · cases h
  | .lit (.rng (_ :: _ :: _)) b, X, W, s, e, fl, c, t, h => by
    unfold chE at h
    simp only [lgE, Bool.false_or] at h
    rw [Bool.and_eq_true] at h
    obtain ⟨hv, h⟩ := h
    split at h
    · simp at h
    · cases h
  | .lit (.seq _) b, X, W, s, e, fl, c, t, h => by
    unfold chE at h
    simp only [lgE, Bool.false_or] at h
    rw [Bool.and_eq_true] at h
    obtain ⟨hv, h⟩ := h
    split at h
    · simp at h
    · cases h
  | .lit (.enum _) b, X, W, s, e, fl, c, t, h => by
    unfold chE at h
    simp only [lgE, Bool.false_or] at h
    rw [Bool.and_eq_true] at h
    obtain ⟨hv, h⟩ := h
    split at h
    · simp at h
    · cases h
  | .lit (.zip _ _) b, X, W, s, e, fl, c, t, h => by
    unfold chE at h
    simp only [lgE, Bool.false_or] at h
    rw [Bool.and_eq_true] at h
    obtain ⟨hv, h⟩ := h
    split at h
    · simp at h
    · cases h
  | .sset x, X, W, s, e, fl, c, t, h => by
    simp only [chE, lgE, Bool.false_or] at h
    rw [Bool.and_eq_true] at h
    obtain ⟨hv, h⟩ := h
    refine res_of (fun ρ => by simp only [evT]) rfl hv ?_
    split at h
    · simp only [Bool.and_eq_true, beq_iff_eq] at h
      obtain ⟨⟨⟨⟨⟨h1, h2⟩, h3⟩, h4⟩, h5⟩, h6⟩ := h
      subst h1 h3
      exact pd_sset c.sup.room c.sup.calm (glB_ok c h2).1 (c.sup.noB _ (by decide +kernel)) (glB_ok c h4).1 (c.sup.noB _ (by decide +kernel)) h5 (chE_ok x (fl := false) c t h6)
    · cases h
  | .join z x, X, W, s, e, fl, c, t, h => by
    simp only [chE, lgE, Bool.false_or] at h
    rw [Bool.and_eq_true] at h
    obtain ⟨hv, h⟩ := h
    refine res_of (fun ρ => by simp only [evT]) rfl hv ?_
    split at h
    · simp only [Bool.and_eq_true] at h
      obtain ⟨⟨⟨⟨h1, h2⟩, h3⟩, h4⟩, h5⟩ := h
      have := eq_of_beq h1
      subst this
      have := eq_of_beq h2
      subst this
      exact pd_join h3 h4 (chE_ok x (fl := false) c t h5)
    · cases h
  | .lzip x y, X, W, s, e, fl, c, t, h => by
    simp only [chE, lgE, Bool.false_or] at h
    rw [Bool.and_eq_true] at h
    obtain ⟨hv, h⟩ := h
    refine res_of (fun ρ => by simp only [evT]) rfl hv ?_
    split at h
    · simp only [Bool.and_eq_true, beq_iff_eq] at h
      obtain ⟨⟨⟨⟨⟨⟨⟨h1, h2⟩, h3⟩, h4⟩, h5⟩, h6⟩, h7⟩, h8⟩ := h
      subst h1 h3
      exact pd_lzip c.sup.calm (glB_ok c h2).1 (c.sup.noB _ (by decide +kernel)) (glB_ok c h4).1 (c.sup.noB _ (by decide +kernel)) h5 h6 (chE_ok x (fl := false) c t h7) (chE_ok y (fl := false) c t h8)
    · cases h
  | .inr neg x [y], X, W, s, e, fl, c, t, h => by
    unfold chE at h
    simp only [lgE, Bool.true_or, Bool.true_and] at h
    split at h
    · simp only [Bool.and_eq_true, beq_iff_eq, decide_eq_true_eq, Bool.not_eq_true'] at h
      obtain ⟨⟨⟨⟨⟨h1, h2⟩, h3⟩, h4⟩, h5⟩, h6⟩ := h
      subst h3 h1
      split at h6
      · simp only [Bool.and_eq_true] at h6
        have ha := chE_ok x (fl := false) c t h5
        have hb := chE_ok y (fl := false) c t h6.2
        have g := (glB_ok c h4).1
        have nb : X.mg ("range" : Str) = none := c.sup.noB _ (by decide +kernel)
        cases fl with
        | true => exact ⟨(pdt_inr1 h2 g nb h6.1 ha hb).ev fun ρ => by simp only [evT], fun z => by cases z⟩
        | false => exact pd_inr1 h2 g nb h6.1 ha hb
      · cases h6
    · cases h
  | .inr neg x [y, z], X, W, s, e, fl, c, t, h => by
    unfold chE at h
    simp only [lgE, Bool.true_or, Bool.true_and] at h
    split at h
    · simp only [Bool.and_eq_true, beq_iff_eq, decide_eq_true_eq, Bool.not_eq_true'] at h
      obtain ⟨⟨⟨⟨⟨h1, h2⟩, h3⟩, h4⟩, h5⟩, h6⟩ := h
      subst h3 h1
      split at h6
      · simp only [Bool.and_eq_true] at h6
        have ha := chE_ok x (fl := false) c t h5
        have hb := chE_ok y (fl := false) c t h6.1.2
        have hd := chE_ok z (fl := false) c t h6.2
        have g := (glB_ok c h4).1
        have nb : X.mg ("range" : Str) = none := c.sup.noB _ (by decide +kernel)
        cases fl with
        | true => exact ⟨(pdt_inr2 h2 g nb h6.1.1.1 h6.1.1.2 ha hb hd).ev fun ρ => by simp only [evT], fun z => by cases z⟩
        | false => exact pd_inr2 h2 g nb h6.1.1.1 h6.1.1.2 ha hb hd
      · cases h6
    · cases h
  | .inr neg x [], X, W, s, e, fl, c, t, h => by
    unfold chE at h
    simp only [lgE, Bool.true_or, Bool.true_and] at h
    split at h
    · simp at h
    · cases h
  | .inr neg x (_ :: _ :: _ :: _), X, W, s, e, fl, c, t, h => by
    unfold chE at h
    simp only [lgE, Bool.true_or, Bool.true_and] at h
    split at h
    · simp at h
    · cases h
  | .bad, X, W, s, e, fl, c, t, h => by
    cases fl with
    | true => exact ⟨pdt_bad fun ρ => by simp only [evT, evE]; rfl, fun z => by cases z⟩
    | false => exact pd_bad fun ρ => by simp only [evE]
theorem chO_ok : ∀ (x : Option Ex) {X : Cx} {W : WX} {s : SC} {e : Option Expr}, Ct gi X xr k cx s → Takes X W → chO gi s x e = true → PDo X xr W e (evO cx x)
  | none, X, W, s, e, c, t, h => by
    simp only [chO] at h
    cases e with
    | none => exact pdo_none
    | some e => cases h
  | some x, X, W, s, e, c, t, h => by
    simp only [chO] at h
    cases e with
    | none => cases h
    | some e => exact pdo_some (chE_ok x c t h)
theorem chDs_ok : ∀ (xs : List Ex) {X : Cx} {W : WX} {s : SC} {es : List Expr}, Ct gi X xr k cx s → Takes X W → chDs gi s xs es = true → PDs X xr W es (evDs cx xs)
  | [], X, W, s, es, c, t, h => by
    simp only [chDs] at h
    cases es with
    | nil => exact pds_nil
    | cons e es => cases h
  | x :: xs, X, W, s, es, c, t, h => by
    simp only [chDs] at h
    cases es with
    | nil => cases h
    | cons e es =>
      simp only [Bool.and_eq_true] at h
      exact pds_cons (star_one h.1.1 _ _) (chE_ok x c t h.1.2) (chDs_ok xs c t h.2)
theorem chX_ok : ∀ (xs : List Ex) {st : Option Ex} {refs : List Bool} {X : Cx} {W : WX} {s : SC} {es rest : List Expr}, Ct gi X xr k cx s → Takes X W → chDs gi s xs es = true → (∀ refs, PDx X xr W rest (evRx cx [] st refs)) → PDx X xr W (es ++ rest) (evRx cx xs st refs)
  | [], st, refs, X, W, s, es, rest, c, t, h, hr => by
    simp only [chDs] at h
    have : es = [] := by simpa using h
    subst this
    exact hr _
  | x :: xs, st, refs, X, W, s, es, rest, c, t, h, hr => by
    simp only [chDs] at h
    split at h
    · cases h
    · simp only [Bool.and_eq_true] at h
      exact pdx_cons h.1.1 (chE_ok x c t h.1.2) (chX_ok xs c t h.2 hr)
theorem chA_ok : ∀ (xs : List Ex) {X : Cx} {W : WX} {s : SC} {es : List Expr} {kws : List Keyword}, Ct gi X xr k cx s → Takes X W → es.all noStar = true → chA gi s xs es kws = true →
    ∃ xs1 ys, xs = xs1 ++ ys ∧ xs1.length = es.length ∧ ys.length = kws.length ∧ (∀ refs, PDr X xr W es (evRs cx xs1 refs)) ∧ ∀ refs, PDk X xr W kws (evRs cx ys refs)
  | [], X, W, s, es, kws, c, t, hs, h => by
    simp only [chA] at h
    cases es with
    | cons e es => cases h
    | nil =>
      cases kws with
      | cons e es => cases h
      | nil => exact ⟨[], [], rfl, rfl, rfl, fun _ => pdr_nil, fun _ => pdk_nil⟩
  | x :: xs, X, W, s, es, kws, c, t, hs, h => by
    simp only [chA] at h
    cases es with
    | cons e es =>
      simp only [Bool.and_eq_true] at h
      have hs' : noStar e = true ∧ es.all noStar = true := by simpa using hs
      have ha := chE_ok x c t h.1
      obtain ⟨xs1, ys, e1, l1, l2, h1, h2⟩ := chA_ok xs c t hs'.2 h.2
      exact ⟨x :: xs1, ys, by rw [e1]; rfl, by simp [l1], l2, fun refs => pdr_cons hs'.1 ha (h1 _), h2⟩
    | nil =>
      cases kws with
      | nil => cases h
      | cons kw kws =>
        obtain ⟨nm, e, kp⟩ := kw
        simp only [Bool.and_eq_true] at h
        have ha := chE_ok x c t h.1
        obtain ⟨xs1, ys, e1, l1, l2, h1, h2⟩ := chA_ok xs c t hs h.2
        have : xs1 = [] := List.length_eq_zero_iff.mp l1
        subst this
        exact ⟨[], x :: ys, by rw [e1]; rfl, rfl, by simp [l2], fun _ => pdr_nil, fun refs => pdk_cons ha (h2 _)⟩
theorem chI_ok : ∀ (it : It) {X : Cx} {W : WX} {s : SC} {tg e : Expr}, Ct gi X xr k cx s → Takes X W → chI gi s it tg e = true → PDi X xr W tg e (evI cx it)
  | .seq x, X, W, s, tg, e, c, t, h => by
    simp only [chI] at h
    exact pdi_seq (chE_ok x c t h)
  | .rng xs, X, W, s, tg, e, c, t, h => by
    simp only [chI] at h
    split at h
    · rename_i n p es pos
      simp only [Bool.and_eq_true, beq_iff_eq, decide_eq_true_eq] at h
      obtain ⟨⟨⟨⟨h1, h2⟩, h3⟩, h4⟩, h5⟩ := h
      subst h1
      have g := (glB_ok c h2).1
      have nb : X.mg ("range" : Str) = none := c.sup.noB _ (by decide +kernel)
      match xs, es, h3, h4, h5 with
      | [], [], h3, _, _ => simp at h3
      | [], _ :: _, _, _, h5 => simp [chDs] at h5
      | _ :: _, [], h3, _, _ => simp at h3
      | [x], [e1], _, _, h5 =>
        simp only [chDs, Bool.and_eq_true] at h5
        exact pdi_rng1 g nb h5.1.1 (chE_ok x c t h5.1.2)
      | [x], _ :: _ :: _, _, _, h5 => simp [chDs] at h5
      | _ :: _ :: _, [_], _, _, h5 => simp [chDs] at h5
      | [x, y], [e1, e2], _, _, h5 =>
        simp only [chDs, Bool.and_eq_true] at h5
        exact pdi_rng2 g nb h5.1.1 h5.2.1.1 (chE_ok x c t h5.1.2) (chE_ok y c t h5.2.1.2)
      | [x, y], _ :: _ :: _ :: _, _, _, h5 => simp [chDs] at h5
      | _ :: _ :: _ :: _, [_, _], _, _, h5 => simp [chDs] at h5
      | [x, y, z], [e1, e2, e3], _, _, h5 =>
        simp only [chDs, Bool.and_eq_true] at h5
        exact pdi_rng3 g nb h5.1.1 h5.2.1.1 h5.2.2.1.1 (chE_ok x c t h5.1.2) (chE_ok y c t h5.2.1.2) (chE_ok z c t h5.2.2.1.2)
      | _, _ :: _ :: _ :: _ :: _, _, h4, _ => simp at h4
      | _ :: _ :: _ :: _ :: _, [_, _, _], _, _, h5 => simp [chDs] at h5
    · cases h
  | .enum x, X, W, s, tg, e, c, t, h => by
    simp only [chI] at h
    split at h
    · simp only [Bool.and_eq_true, beq_iff_eq] at h
      obtain ⟨⟨⟨⟨h1, h2⟩, h3⟩, h4⟩, h5⟩ := h
      subst h1
      cases tg <;> first | (cases h3; done) | skip
      exact pdi_enum (glB_ok c h2).1 (c.sup.noB _ (by decide +kernel)) h4 (chE_ok x c t h5)
    · cases h
  | .zip a b, X, W, s, tg, e, c, t, h => by
    simp only [chI] at h
    split at h
    · simp only [Bool.and_eq_true, beq_iff_eq] at h
      obtain ⟨⟨⟨⟨⟨⟨h1, h2⟩, h3⟩, h4⟩, h5⟩, h6⟩, h7⟩ := h
      subst h1
      cases tg <;> first | (cases h3; done) | skip
      exact pdi_zip (glB_ok c h2).1 (c.sup.noB _ (by decide +kernel)) h4 h5 (chE_ok a c t h6) (chE_ok b c t h7)
    · cases h
end
end
end MI
namespace MI
open PySem PySem.Spec PyProof.Rows L2
/-! ### statements -/
def isComp : Ex → Bool
  | .comp _ _ _ _ => true
  | _ => false
mutual
def chS (gi : Gi) (s : SC) (st : Sx) (p : Stmt) : Bool := match st with
  | .asg i x => (match p with
    | .Assign [.Name y py] e _ => locB s i y && chE gi s false x e && (match e with
      | .ListComp _ _ _ _ => isComp x && isFn s
      | e => plainV e)
    | _ => false)
  | .unp is x => (match p with
    | .Assign [tge] e _ => plainV e && noTup e && !(noTup tge) && chG s (.tup (is.map .name)) tge && chE gi s false x e
    | _ => false)
  | .setI i ix x => (match p with
    | .Assign [.Subscript (.Name y _) ixe _] e _ => visB s i y && noSlice ixe && plainV e && chE gi s false x e && chE gi s false ix ixe
    | _ => false)
  | .expr x => (match p with
    | .Expr e _ => plainV e && chE gi s false x e
    | _ => false)
  | .ret x => (match p with
    | .Return (some e) _ => chE gi s false x e
    | _ => false)
  | .retN => (match p with
    | .Return none _ => true
    | _ => false)
  | .ite c a b => (match p with
    | .If c' a' b' _ => chE gi s true c c' && chSs gi s a a' && chSs gi s b b'
    | _ => false)
  | .for tg it b => (match p with
    | .For tge ie body [] _ => noSet ie && chG s tg tge && chI gi s it tge ie && chSs gi s b body
    | _ => false)
  | .pass => (match p with
    | .Pass _ => true
    | _ => false)
  | .brk => (match p with
    | .Break _ => true
    | _ => false)
  | .cont => (match p with
    | .Continue _ => true
    | _ => false)
  | .par i j a b => (match p with
    | .Assign [.Tuple [.Name x px, .Name y py] _ _] (.Tuple [e1, e2] _ _) _ => s.N[i]? == some x && s.N[j]? == some y && s.sc.names.lookup x == some .local && s.sc.names.lookup y == some .local && (match s.sc.kind with | .function => true | _ => false) &&
      (py.line == px.line) && noStar e1 && noStar e2 && !([e1, e2].all (foldedForSure 8)) && !([e1, e2].all (constantsAlone 8)) && decide (i ≠ j) && chE gi s false a e1 && chE gi s false b e2
    | _ => false)
  | .augI _ _ _ _ => false
  | .aug _ _ _ => false
  | .while c b => (match p with
    | .While c' b' [] _ => chE gi s true c c' && chSs gi s b b'
    | _ => false)
  | .raise _ _ => true
def chSs (gi : Gi) (s : SC) (sts : List Sx) (ps : List Stmt) : Bool := match sts with
  | [] => ps.isEmpty
  | st :: sts => (match ps with
    | [] => false
    | p :: ps => chS gi s st p && chSs gi s sts ps)
end
section
variable {gi : Gi} {xr : XRep} {k : Nat} {cx : Cxt} {X : Cx} {W : WX} {s : SC}
theorem asgC_ok {i : Nat} {y : Str} {py pos cpos : Pos} {e1 : Expr} {gens : List Comprehension} {scope : Scope} {elt : Ex} {tg : Tg} {it : It} {cond : Option Ex} (c : Ct gi X xr k cx s) (t : Takes X W) (hl : locB s i y = true) (hsw : swB s y py cpos scope = true) (h : chE gi s false (.comp elt tg it cond) (.ListComp e1 gens scope cpos) = true) :
    PDst X xr W (.Assign [.Name y py] (.ListComp e1 gens scope cpos) pos) (evS cx (.asg i (.comp elt tg it cond))) := by
  obtain ⟨l1, l2, l3⟩ := locB_ok c hl
  have hyl : X.env.scope.names.lookup y = some .local := by
    rw [c.sc]
    unfold swB at hsw
    simp only [Bool.and_eq_true, beq_iff_eq] at hsw
    exact hsw.1.1.2
  have key : ∀ {e : Expr}, e = .ListComp e1 gens scope cpos → chE gi s false (.comp elt tg it cond) e = true → ∃ tge ie ifs, gens = [⟨tge, ie, ifs, 0⟩] ∧ blkC s.N s.sc scope (ownOf s tg.vars) = true ∧ noSet ie = true ∧ chG (s.blk scope) tg tge = true ∧ chI gi s it tge ie = true ∧ chE gi (s.blk scope) false elt e1 = true ∧ ((cond = none ∧ ifs = []) ∨ ∃ d d', cond = some d ∧ ifs = [d'] ∧ chE gi (s.blk scope) true d d' = true) := by
    intro e he h
    cases cond with
    | none =>
      unfold chE at h
      simp only [lgE, Bool.false_or] at h
      rw [Bool.and_eq_true] at h
      obtain ⟨hv, h⟩ := h
      split at h
      · rename_i e2 tge ie ifs scope2 pos2
        cases he
        simp only [Bool.and_eq_true] at h
        obtain ⟨⟨⟨⟨⟨h1, h2⟩, h3⟩, h4⟩, h5⟩, h6⟩ := h
        exact ⟨tge, ie, ifs, rfl, h1, h2, h3, h4, h5, .inl ⟨rfl, by simpa using h6⟩⟩
      · cases h
    | some d =>
      unfold chE at h
      simp only [lgE, Bool.false_or] at h
      rw [Bool.and_eq_true] at h
      obtain ⟨hv, h⟩ := h
      split at h
      · rename_i e2 tge ie ifs scope2 pos2
        cases he
        simp only [Bool.and_eq_true] at h
        obtain ⟨⟨⟨⟨⟨h1, h2⟩, h3⟩, h4⟩, h5⟩, h6⟩ := h
        split at h6
        · exact ⟨tge, ie, _, rfl, h1, h2, h3, h4, h5, .inr ⟨d, _, rfl, rfl, h6⟩⟩
        · cases h6
      · cases h
  obtain ⟨tge, ie, ifs, rfl, h1, h2, h3, h4, h5, h6⟩ := key rfl h
  refine pds_asgC c.sup.calm c.sup.nd l1 hyl (sw_comp c.sc hsw) (chI_ok it c t h4) (own := ownOf s tg.vars) (by rw [c.N, c.sc]; exact blkOk_by h1) (own_ix (X := X) _) (fun s0 H C cl fp => chG_ok (c.blk scope s0 H C cl fp) tg tge h3) (fun s0 H C cl fp => ?_) (fun s0 H C cl fp => chE_ok elt (c.blk scope s0 H C cl fp) takes0 h5) (noSet_ok h2 _)
  rcases h6 with ⟨rfl, rfl⟩ | ⟨d, d', rfl, rfl, h6⟩
  · exact pdc_nil
  · exact pdc_one (chE_ok d (fl := true) (c.blk scope s0 H C cl fp) takes0 h6).1
mutual
theorem chS_ok (c : Ct gi X xr k cx s) (t : Takes X W) (po : PassesOwn (model X.prog X.w) X.A X.env X.xe) : ∀ (st : Sx) (p : Stmt), chS gi s st p = true → PDst X xr W p (evS cx st)
  | .asg i x, p, h => by
    simp only [chS] at h
    split at h
    · rename_i y py e pos
      simp only [Bool.and_eq_true] at h
      obtain ⟨⟨h1, h2⟩, h3⟩ := h
      split at h3
      · rename_i scope cpos
        simp only [Bool.and_eq_true] at h3
        cases hsw : swB s y py cpos scope with
        | true =>
          cases x <;> try (cases h3.1; done)
          exact asgC_ok c t h1 hsw h2
        | false =>
          obtain ⟨l1, l2, l3⟩ := locB_ok c h1
          exact pds_asg c.sup.nd l1 l2 l3 (sw_compN c.sc h3.2 hsw) (chE_ok x (fl := false) c t h2)
      · obtain ⟨l1, l2, l3⟩ := locB_ok c h1
        exact pds_asg c.sup.nd l1 l2 l3 (sw_plain h3 _ _ _) (chE_ok x (fl := false) c t h2)
    · cases h
  | .unp is x, p, h => by
    simp only [chS] at h
    split at h
    · simp only [Bool.and_eq_true] at h
      obtain ⟨⟨⟨⟨h1, h2⟩, h3⟩, h4⟩, h5⟩ := h
      rename_i tge e pos
      cases tge <;> try (cases h3; done)
      exact pds_unp (sws_plain h1 _ _ _) (st_tup h2 _) rfl (chG_ok c _ _ h4) (chE_ok x (fl := false) c t h5)
    · cases h
  | .setI i ix x, p, h => by
    simp only [chS] at h
    split at h
    · simp only [Bool.and_eq_true] at h
      obtain ⟨⟨⟨⟨h1, h2⟩, h3⟩, h4⟩, h5⟩ := h
      obtain ⟨v1, v2, v3, v4⟩ := visB_ok c h1
      exact pds_setI v1 v2 v3 v4 h2 (sws_plain h3 _ _ _) (st_sub _ _) (chE_ok x (fl := false) c t h4) (chE_ok ix (fl := false) c t h5)
    · cases h
  | .expr x, p, h => by
    simp only [chS] at h
    split at h
    · simp only [Bool.and_eq_true] at h
      exact pds_expr (sw_plain h.1 _ _ _) (chE_ok x (fl := false) c t h.2)
    · cases h
  | .ret x, p, h => by
    simp only [chS] at h
    split at h
    · exact pds_ret (chE_ok x (fl := false) c t h)
    · cases h
  | .retN, p, h => by
    simp only [chS] at h
    split at h
    · exact pds_retN
    · cases h
  | .ite d a b, p, h => by
    simp only [chS] at h
    split at h
    · simp only [Bool.and_eq_true] at h
      exact pds_if (chE_ok d (fl := true) c t h.1.1).1 (chSs_ok c t po a _ h.1.2) (chSs_ok c t po b _ h.2)
    · cases h
  | .for tg it b, p, h => by
    simp only [chS] at h
    split at h
    · simp only [Bool.and_eq_true] at h
      exact pds_for po c.sup.calm (chI_ok it c t h.1.2) (chG_ok c tg _ h.1.1.2) (chSs_ok c t po b _ h.2) (noSet_ok h.1.1.1 _)
    · cases h
  | .pass, p, h => by
    simp only [chS] at h
    split at h
    · exact pds_pass
    · cases h
  | .brk, p, h => by
    simp only [chS] at h
    split at h
    · exact pds_brk
    · cases h
  | .cont, p, h => by
    simp only [chS] at h
    split at h
    · exact pds_cont
    · cases h
  | .par i j a b, p, h => by
    simp only [chS] at h
    split at h
    · rename_i x px y py kt pt e1 e2 k2 pt2 pos
      simp only [Bool.and_eq_true, beq_iff_eq, decide_eq_true_eq, Bool.not_eq_true'] at h
      obtain ⟨⟨⟨⟨⟨⟨⟨⟨⟨⟨⟨⟨h1, h2⟩, h3⟩, h4⟩, h5⟩, h6⟩, h7⟩, h8⟩, h9⟩, h10⟩, h11⟩, h12⟩, h13⟩ := h
      have hx : X.env.scope.names.lookup x = some .local := by rw [c.sc]; exact h3
      have hy : X.env.scope.names.lookup y = some .local := by rw [c.sc]; exact h4
      have hk : X.env.scope.kind = .function := by
        rw [c.sc]
        split at h5
        · assumption
        · cases h5
      have hi : X.N[i]? = some x := by rw [c.N]; exact h1
      have hj : X.N[j]? = some y := by rw [c.N]; exact h2
      have hxy : x ≠ y := fun z => by
        subst z
        have hl : i < X.N.length := by
          rcases Nat.lt_or_ge i X.N.length with q | q
          · exact q
          · rw [List.getElem?_eq_none q] at hi; cases hi
        exact h11 ((List.getElem?_inj hl c.sup.nd).mp (hi.trans hj.symm))
      exact pds_par c.sup.calm c.sup.nd hi hj hx hy h7 h8 (sw_par hk hx hy (by simpa using h6) hxy h7 h8 h9 h10) (chE_ok a (fl := false) c t h12) (chE_ok b (fl := false) c t h13) h11
    · cases h
  | .augI _ _ _ _, p, h => by simp only [chS] at h; cases h
  | .aug _ _ _, p, h => by simp only [chS] at h; cases h
  | .while d b, p, h => by
    simp only [chS] at h
    split at h
    · simp only [Bool.and_eq_true] at h
      exact pds_while po (chE_ok d (fl := true) c t h.1).1 (chSs_ok c t po b _ h.2)
    · cases h
  | .raise _ _, p, h => pds_bad fun ρ => by simp only [evS]
theorem chSs_ok (c : Ct gi X xr k cx s) (t : Takes X W) (po : PassesOwn (model X.prog X.w) X.A X.env X.xe) : ∀ (sts : List Sx) (ps : List Stmt), chSs gi s sts ps = true → PDss X xr W ps (evSs cx sts)
  | [], ps, h => by
    simp only [chSs] at h
    cases ps with
    | nil => exact pdss_nil
    | cons p ps => cases h
  | st :: sts, ps, h => by
    simp only [chSs] at h
    cases ps with
    | nil => cases h
    | cons p ps =>
      simp only [Bool.and_eq_true] at h
      exact pdss_cons (chS_ok c t po st p h.1) (chSs_ok c t po sts ps h.2)
end
end
/-! ### the table of a text's defs -/
structure Df where
  name : Str
  N : List Str
  ps : List Str
  params : Arguments
  body : List Stmt
  scope : Scope
  fd : Fd
  shapes : List Shape
  dfl : List He.Dv := []
  kwd : List (Str × He.Dv) := []
  star : Bool := false
def Df.dvs (K : PySem.W.Frag) (d : Df) : List V := d.dfl.map (He.Dv.v K)
def Df.kws (K : PySem.W.Frag) (d : Df) : List (Str × V) := d.kwd.map fun q => (q.1, q.2.v K)
/-- a def as it stands -/
abbrev Df.Fun (K : PySem.W.Frag) (d : Df) (f : Addr) (fd : FuncData) : Prop := FunD K d.name d.name d.params d.body d.scope (d.dvs K) (d.kws K) f fd
def sigsOf (defs : List Df) : List Sig := defs.map fun d => ⟨d.name, d.ps, d.shapes, d.star⟩
def okDf (gi : Gi) (d : Df) : Bool := decide (d.ps.length = d.fd.nP) && decide (d.N.length = d.fd.nS) && chSs gi ⟨d.N, d.scope, fun _ => true⟩ d.fd.body d.body
structure HeadOk (gi : Gi) (defs : List Df) (K : PySem.W.Frag) (mg : Str → Option Value) : Prop where
  noB : ∀ n ∈ noBs, mg n = none
  glo : ∀ p ∈ gi.consts, ∃ v u, mg (Str.ofString p.1) = some u ∧ RelV v u ∧ ∀ F H, Dat K F H v p.2
  sys : SysOk K
  fn : ∀ (i : Nat) (d : Df), defs[i]? = some d → ∃ f fd, d.Fun K f fd ∧ mg d.name = some (.ref f) ∧
    (∀ sh ∈ d.shapes, ∃ g gV, KBn K fd d.ps sh.n sh.ks g gV ∧ ∀ vs zs : List V, vs.length = sh.n → zs.length = sh.ks.length → Pick K (vs ++ zs) sh.src (gV vs zs)) ∧
    (d.star = true → ∃ ps pv, d.ps = ps ++ [pv] ∧ StarBind fd ps pv)
theorem table {gi : Gi} {defs : List Df} {P : Program} {w : World} {K : PySem.W.Frag} {mg : Str → Option Value} {base : Heap} (xr : XRep) (fuel : Nat) (hs : gi.sigs = sigsOf defs) (hd : HeadOk gi defs K mg) (hok : ∀ d ∈ defs, okDf gi d = true) (hsc : ∀ d ∈ defs, FnScope d.N d.ps d.scope) :
    ∀ (k : Nat) (i : Nat) (d : Df), defs[i]? = some d → ∀ f fd, d.Fun K f fd → FnG P w K mg base k f fd d.ps (SpMi K xr (run (defs.map (·.fd)) fuel k i)) ∧
      ∀ ps pv, d.ps = ps ++ [pv] → StarBind fd ps pv → FnRG P w K mg base k f (SpStar K xr (run (defs.map (·.fd)) fuel k i) ps.length)
  | 0, i, d, hi, f, fd, F => by
    have no : ∀ vs H Q E, ¬ SpMi K xr (run (defs.map (·.fd)) fuel 0 i) vs H Q E := fun vs H Q E z => z.choose_spec.choose_spec.choose_spec.2
    refine ⟨⟨fun vs H Q E h => (no vs H Q E h).elim, fun A outer s H args us vs Q E hg hr e0 hb r h => (no vs H Q E h).elim⟩, fun ps pv _ _ A outer s H us vs Q E hg hr e0 r h => ?_⟩
    obtain ⟨ws, rest, _, _, _, q⟩ := h
    exact (no _ _ _ _ (q s.heap.objs.size (e0.hok.fresh (Nat.le_refl _)))).elim
  | k + 1, i, d, hi, f, fd, F => by
    have hm : d ∈ defs := List.mem_of_getElem? hi
    have ho := hok d hm
    unfold okDf at ho
    simp only [Bool.and_eq_true, decide_eq_true_eq] at ho
    obtain ⟨⟨o1, o2⟩, o3⟩ := ho
    have hrun : run (defs.map (·.fd)) fuel (k + 1) i = runB ⟨run (defs.map (·.fd)) fuel k, fuel⟩ d.fd := by
      funext ms
      unfold run
      rw [List.getElem?_map, hi]
      rfl
    rw [hrun]
    obtain ⟨oc, od, dV, kV, doc, pm, an, cdv, ct, osl, rfl, lk, hcd, _, _⟩ := F.ex
    have key : ∀ (A : Around) (outer : List PySem.Env) (s : Shared) (H : Hp) (vs : List V) (Q : VK) (E : XK), A.guards = some [] → Room k (A.deeper (envOfC d.name d.scope s.heap.objs.size f cdv)) → SpMi K xr (runB ⟨run (defs.map (·.fd)) fuel k, fuel⟩ d.fd) vs H Q E →
        ∃ t, PSs (cxOf (L2.CX P w) P w K mg base d.N d.name d.scope f cdv A outer s H E) d.body t ∧ t { nx := fun _ H' => Q .non H', rt := Q } (start d.N vs) H := by
      intro A outer s H vs Q E hg hr hsp
      have hA : (A.deeper (envOfC d.name d.scope s.heap.objs.size f cdv)).guards = some [] := hg
      let X : Cx := cxOf (L2.CX P w) P w K mg base d.N d.name d.scope f cdv A outer s H E
      have sig : ∀ (j : Nat) (sg : Sig), gi.sigs[j]? = some sg → ∃ d2 : Df, defs[j]? = some d2 ∧ sg = Sig.mk d2.name d2.ps d2.shapes d2.star := fun j sg hj => by
        rw [hs] at hj
        unfold sigsOf at hj
        rw [List.getElem?_map, Option.map_eq_some_iff] at hj
        obtain ⟨d2, hj, rfl⟩ := hj
        exact ⟨d2, hj, rfl⟩
      have c : Ct gi X xr k ⟨run (defs.map (·.fd)) fuel k, fuel⟩ ⟨d.N, d.scope, fun _ => true⟩ := by
        refine ⟨⟨hr, hA, rfl, (hsc d hm).nd, hd.noB, hd.glo, fun j sg hj => ?_, fun j sg hj hst => ?_, hd.sys⟩, rfl, rfl, rfl⟩
        · obtain ⟨d2, hj2, rfl⟩ := sig j sg hj
          obtain ⟨f2, fd2, F2, m2, b2, _⟩ := hd.fn j d2 hj2
          exact ⟨f2, fd2, (table xr fuel hs hd hok hsc k j d2 hj2 f2 fd2 F2).1, m2, F2.kp, b2⟩
        · obtain ⟨d2, hj2, rfl⟩ := sig j sg hj
          obtain ⟨f2, fd2, F2, m2, _, b2⟩ := hd.fn j d2 hj2
          obtain ⟨ps, pv, e1, e2⟩ := b2 hst
          have l : d2.ps.length - 1 = ps.length := by rw [e1]; simp
          refine ⟨f2, ?_, m2, F2.kp⟩
          show FnRG _ _ _ _ _ _ _ (SpStar _ _ _ (d2.ps.length - 1))
          rw [l]
          exact (table xr fuel hs hd hok hsc k j d2 hj2 f2 fd2 F2).2 ps pv e1 e2
      have tk : Takes X (fun cls d _ H => E cls d H) := takes_of rfl rfl rfl rfl
      have po : PassesOwn (model X.prog X.w) X.A X.env X.xe := passes_of rfl
      exact body_ok (X := X) (chSs_ok c tk po _ _ o3) o2 hsp
    refine ⟨fnG_of lk hcd (hsc d hm) (fun vs H Q E h => (sp_len h).trans o1.symm) key, fun ps pv e1 e2 => ?_⟩
    have S := hsc d hm
    rw [e1] at S
    exact starG_of lk hcd S e2 key
end MI
namespace MI
open PySem PySem.Spec PyProof.Rows L2
/-! ### the law's call -/
/-- the law's def, called with the script, where no guard stands around -/
theorem law_callG {P : Program} {w : World} {K : PySem.W.Frag} {mg mb : Str → Option Value} {k : Nat} {fa a : Addr} {fd : FuncData} {x : Str} {sp : Sp} {t : Shared} {vs : List Value} {ns : List Int} (KX : K.In t.heap) (hns : t.heap.Ns mainGlobals mg)
    (hb : t.heap.Ns builtinsNs mb) (hbb : ∀ x : Str, x ≠ "__name__" → mb x = bootBuiltins x) (hlim : t.heap.NoLimit) (hg : t.gens = #[]) (ha : t.heap.get? a = some { cls := .type "list", data := .seq vs.toArray }) (hi : IntsAre vs ns)
    (hl : ns.length ≤ sizeLine) (hr : Room k callerA) (G : ∀ base : Heap, K.In base → base.Ns mainGlobals mg → FnG P w K mg base k fa fd [x] sp) (hbind : ∀ (s : Shared) (u : Value), BindsTo s fd ⟨[u], []⟩ [(x, u)])
    (hsp : ∀ H : Hp, Only H → SqL K H a (ns.map V.int) → sp [.ref a] H (fun v _ => v = .bl true) fun _ _ _ => False) :
    codeAny (model P w) callerA (.call (.ref fa) ⟨[.ref a], []⟩) (fun r s' => r = .ok (.ret (.bool true)) ∧ OldK t.heap s'.heap ∧ s'.os = t.os ∧ AllBare s'.gens) t := by
  have rv := vals_ints hi
  have lv := hi.length
  have main : ∀ H : Hp, Only H → SqL K H a (ns.map V.int) → HOk P w H t.heap → (∀ b, H b ≠ none → b = a) → (H a ≠ none → K.lookup a = none) →
      codeAny (model P w) callerA (.call (.ref fa) ⟨[.ref a], []⟩) (fun r s' => r = .ok (.ret (.bool true)) ∧ OldK t.heap s'.heap ∧ s'.os = t.os ∧ AllBare s'.gens) t := by
    intro H hO hS hok one apart
    have free : ∀ {b : Addr}, b ≠ a → H b = none := fun {b} h => by
      cases q : H b with
      | none => rfl
      | some u => exact absurd (one b (by rw [q]; simp)) h
    have dict : ∀ {b : Addr} {o : Obj} {es : Array DictEntry} {ep : Nat}, t.heap.get? b = some o → o.data = .dict es ep → H b = none := fun {b o es ep} e d => free fun eb => by
      rw [eb, ha] at e
      cases e
      exact nomatch (show Data.seq vs.toArray _ = Data.dict es ep from d)
    have names : ∀ {b : Addr} {m : Str → Option Value}, t.heap.Ns b m → (hidT t.heap H).Ns b m := fun {b m} h => by
      obtain ⟨o, es, ep, e, d, r⟩ := h
      exact ⟨o, es, ep, hidT_get e (dict e d), d, r⟩
    have written : K.In (hidT t.heap H) := fun b o e => hidT_get (KX b o e) <| by
      by_cases eb : b = a
      · cases q : H b with
        | none => rfl
        | some u =>
          have z := apart (by rw [← eb, q]; simp)
          rw [← eb, e] at z
          cases z
      · exact free eb
    have mod : Mod K mg (hidT t.heap H) := by
      obtain ⟨mc, h1, h2⟩ := hlim
      exact ⟨written, names hns, ⟨mb, names hb, hbb⟩, mc, names h1, h2⟩
    have env : Env0 P w K mg (hidT t.heap H) callerA [] t H := ⟨rfl, mod, fun b o => of_hidT, Nat.le_of_eq (hidT_size _ _), trivial, fun b hb => (nomatch (show b ∈ ([] : List Addr) from hb)), hok, .of_eq hg⟩
    apply codeAny_mono ((G _ written (names hns)).run callerA [] t H ⟨[.ref a], []⟩ [.ref a] [.ref a] _ _ rfl hr env (hbind t (.ref a)) (.cons rfl .nil) (hsp H hO hS))
    intro r s' h
    match r, h with
    | .error e, ⟨_, _, _, _, _, _, _, _, _, _, _, _, z⟩ => exact z.elim
    | .ok (.ret u), ⟨v, H', os, bare, un, hok', rr, q⟩ =>
      have q2 : v = .bl true := q
      rw [q2] at rr
      have eu : u = Value.bool true := rr
      rw [eu]
      refine ⟨rfl, OldK.of_keep fun b o e => ?_, os, bare⟩
      rcases hO b with z | ⟨ob, xs, z⟩
      · exact un.keep b o e z (fun m => by cases m) (fun m => by cases m)
      · have e1 := (hok b _ z).1
        have e2 := (hok' b _ (un.frzs b ob _ z)).1
        rw [e] at e1
        cases e1
        exact e2
  cases hk : K.lookup a with
  | some o =>
    have e := KX a o hk
    rw [ha] at e
    cases e
    apply main (fun _ => none) (fun _ => .inl rfl) (.inr ⟨_, vs.toArray, _, hk, rfl, rfl, rfl, ?_, ?_⟩)
    · exact fun b u z => nomatch (show (none : Option HO) = some u from z)
    · exact fun b z => absurd rfl z
    · exact fun z => absurd rfl z
    · rw [List.size_toArray, lv]
      exact hl
    · simpa using rv
  | none =>
    have tr : ∀ b, (fun b => if b = a then some (HO.frz { cls := .type "list", data := .seq vs.toArray } (.lst (ns.map V.int))) else none) b ≠ none → b = a := fun b z => by
      by_cases hb : b = a
      · exact hb
      · exact absurd (if_neg hb) z
    apply main (fun b => if b = a then some (.frz { cls := .type "list", data := .seq vs.toArray } (.lst (ns.map V.int))) else none) (fun b => ?_) (.inl (.inr ⟨_, if_pos rfl⟩)) (fun b u z => ?_) tr fun _ => hk
    · by_cases hb : b = a
      · exact .inr ⟨_, _, if_pos hb⟩
      · exact .inl (if_neg hb)
    · have hb := tr b (by rw [z]; simp)
      have z2 := (if_pos hb).symm.trans z
      cases z2
      rw [hb]
      exact ⟨ha, by rw [List.length_map]; exact hl, vs, _, rv, ha⟩
theorem walk_ofG {l : PySem.W.OpenLaw} {n k : Nat} {q : Program} {loose : List Str} {XP : (Str → Option Value) → Heap → Prop} {YP : World → Heap → Prop} {d : DefRec} {x : Str} (hn : l.most = some n) (hn2 : n ≤ sizeLine) (hdf : d.params.defaults = []) (hr : Room k callerA)
    (G : ∀ (w : World) (mg : Str → Option Value) (fa : Addr) (h : Heap), YP w h → h.Ns mainGlobals mg → mg d.name = some (.ref fa) → ∃ (K : PySem.W.Frag) (fd : FuncData) (sp : Sp), K.In h ∧ (∀ (s : Shared) (u : Value), BindsTo s fd ⟨[u], []⟩ [(x, u)]) ∧
      (∀ (H : Hp) (a : Addr) (ns : List Int), ns.length ≤ n → Only H → SqL K H a (ns.map V.int) → sp [.ref a] H (fun v _ => v = .bl true) fun _ _ _ => False) ∧ ∀ base : Heap, K.In base → base.Ns mainGlobals mg → FnG l.prog w K mg base k fa fd [x] sp) :
    PySem.W.WalkO q loose XP YP l.row.toRowW d [] (fun f vs => PySem.call f vs) := by
  apply Att.attach_call hn hdf
  intro w s₀ s₁ mg mb fa o pm cd doc a vs ns g Y ho hd hcd hmg hobj hints hlen hg
  obtain ⟨K, fd, sp, KX, hb, hsp, hG⟩ := G w mg fa _ Y g.T.g hmg
  exact law_callG KX g.T.g g.T.b g.T.builtins g.T.nolimit hg hobj hints (Nat.le_trans hlen hn2) hr hG hb fun H hO hS => hsp H a ns hlen hO hS
/-! ### the head's facts, and what stands where sys.modules stands -/
def sysB (K : PySem.W.Frag) : Bool := match K.lookup sysModules with
  | some o => decide (o.cls = .type "dict")
  | none => false
theorem sysB_ok {K : PySem.W.Frag} (h : sysB K = true) : SysOk K := by
  unfold sysB at h
  split at h
  · rename_i o e
    exact ⟨o, e, of_decide_eq_true h⟩
  · cases h
def obsX (fa : List He.Fa) (fn : List He.DefD) (K : PySem.W.Frag) : He.AlD := ((He.obsD fa fn K).1 && sysB K, (He.obsD fa fn K).2)
def SaysX (fa : List He.Fa) (fn : List He.DefD) (K : PySem.W.Frag) : Prop := obsX fa fn K = He.valD fn
theorem SaysX.both {fa : List He.Fa} {fn : List He.DefD} {K : PySem.W.Frag} (h : SaysX fa fn K) : He.SaysD fa fn K ∧ SysOk K := by
  have h1 : ((He.obsD fa fn K).1 && sysB K) = true := congrArg Prod.fst h
  have h2 : (He.obsD fa fn K).2 = fn.map He.DefD.val := congrArg Prod.snd h
  rw [Bool.and_eq_true] at h1
  exact ⟨Prod.ext h1.1 h2, sysB_ok h1.2⟩
def obsXG (n : Nat) (fa : List He.Fa) (fn : List He.DefD) (g : Addr → Option Obj) : He.AlD := obsX fa fn (He.frG g (He.asD g n ++ [sysModules]))
def hookX (n : Nat) (fa : List He.Fa) (fn : List He.DefD) : PySem.W.Hook where
  α := He.AlD
  obs := fun sh => obsXG n fa fn sh.heap.get?
  val := fun _ => He.valD fn
  says := fun _ hp => ∃ fr : PySem.W.Frag, fr.In hp ∧ SaysX fa fn fr
  of := fun _ _ q => ⟨_, He.frG_in, q⟩
  keeps := fun _ _ _ z kp => ⟨z.choose, PySem.W.Frag.In.keeps z.choose_spec.1 kp, z.choose_spec.2⟩
theorem obsXG_eq {n : Nat} {fa : List He.Fa} {fn : List He.DefD} {g : Addr → Option Obj} {sh : Shared} (h : ∀ a, g a = sh.heap.get? a) : obsXG n fa fn g = (hookX n fa fn).obs sh := by
  have : g = sh.heap.get? := funext h
  subst this
  rfl
/-- nothing is known of an exception -/
def noX : XRep := fun _ _ _ _ _ => False
/-- the law's promise, from what the small language says -/
theorem law_sp {K : PySem.W.Frag} {H : Hp} {a : Addr} {ns : List Int} {φ : List M → FOut} (hS : SqL K H a (ns.map V.int)) (h : ∃ fin, φ [.sc ns] = .ret (.sh (.bool true)) fin) : SpMi K noX φ [.ref a] H (fun v _ => v = .bl true) fun _ _ _ => False := by
  obtain ⟨fin, e⟩ := h
  have rep : RepM K (fun b => b = a ∧ H a ≠ none) H (fun _ => False) (.ref a) (.sc ns) := by
    refine ⟨a, rfl, ?_⟩
    rcases hS with r | r
    · refine .inl ⟨⟨rfl, ?_⟩, r⟩
      rcases r with r | ⟨o, r⟩
      · rw [r]; simp
      · rw [r]; simp
    · exact .inr r
  refine ⟨fun b => b = a ∧ H a ≠ none, fun _ => False, [.sc ns], ⟨.cons rep .nil, fun b hb => by rw [hb.1]; exact hb.2, fun b hb => hb.elim, fun i j b m m' ne e1 e2 o1 o2 v1 v2 => ?_, fun b hb => hb.elim⟩, ?_⟩
  · have : m = .sc ns := by
      cases i with
      | zero => simpa using e1.symm
      | succ i => simp at e1
    subst this
    cases o1
  · rw [e]
    intro F' H' v C fo ro
    cases ro
    rfl
end MI
namespace MI
open PySem PySem.Spec PyProof.Rows L2
/-! ### a head over the table -/
def place {α : Type} : List Arg → List α → List α → List α
  | [], _, _ => []
  | .e k :: src, all, ms => (match all[k]? with
    | some v => v :: place src all ms
    | none => place src all ms)
  | .d _ :: src, all, m :: ms => m :: place src all ms
  | .d _ :: src, all, [] => place src all []
def dvIs : He.Dv → D → Bool
  | .non, .none => true
  | .bl b, .bool c => b == c
  | .int i, .int j => i == j
  | .str x, .str y => x == y
  | _, _ => false
theorem dvIs_ok {K : PySem.W.Frag} {F : Fz} {H : Hp} {v : He.Dv} {d : D} (h : dvIs v d = true) : Dat K F H (v.v K) d := by
  cases v <;> cases d <;> first | (cases h; done) | skip
  · exact .non
  · simp [dvIs] at h; subst h; exact .bl _
  · simp [dvIs] at h; subst h; exact .int _
  · simp [dvIs] at h; subst h; exact .str _
def srcB (n : Nat) : List Arg → List He.Dv → Bool
  | [], _ => true
  | .e k :: src, ms => decide (k < n) && srcB n src ms
  | .d x :: src, m :: ms => dvIs m x && srcB n src ms
  | .d _ :: _, [] => false
theorem pick_of {K : PySem.W.Frag} {all : List V} : ∀ {src : List Arg} {ms : List He.Dv}, srcB all.length src ms = true → Pick K all src (place src all (ms.map (He.Dv.v K)))
  | [], _, _ => .nil
  | .e k :: src, ms, h => by
    have h' : k < all.length ∧ srcB all.length src ms = true := by simpa [srcB] using h
    have e : all[k]? = some all[k] := by simp [h'.1]
    unfold place
    rw [e]
    exact .e e (pick_of h'.2)
  | .d x :: src, m :: ms, h => by
    have h' : dvIs m x = true ∧ srcB all.length src ms = true := by simpa [srcB] using h
    exact .d (fun F H => dvIs_ok h'.1) (pick_of h'.2)
  | .d _ :: _, [], h => by cases h
theorem vals_get {vs : List V} {us : List Value} (r : Vals vs us) (k : Nat) : (vs[k]? = none ∧ us[k]? = none) ∨ ∃ v u, vs[k]? = some v ∧ us[k]? = some u ∧ RelV v u := by
  cases e : vs[k]? with
  | none =>
    have := List.getElem?_eq_none_iff.mp e
    exact .inl ⟨rfl, List.getElem?_eq_none_iff.mpr (by rw [← r.length]; exact this)⟩
  | some v =>
    obtain ⟨u, h1, h2⟩ := r.get e
    exact .inr ⟨v, u, rfl, h1, h2⟩
theorem place_rel {vs : List V} {us : List Value} (r : Vals vs us) : ∀ (src : List Arg) {mz : List V} {mv : List Value}, Vals mz mv → Vals (place src vs mz) (place src us mv)
  | [], _, _, _ => .nil
  | .d _ :: src, _, _, .nil => place_rel r src .nil
  | .d _ :: src, _, _, .cons a b => .cons a (place_rel r src b)
  | .e k :: src, _, _, m => by
    unfold place
    rcases vals_get r k with ⟨e1, e2⟩ | ⟨v, u, e1, e2, h⟩
    · rw [e1, e2]; exact place_rel r src m
    · rw [e1, e2]; exact .cons h (place_rel r src m)
/-- the keyword-only names that are not given -/
def lackK (d : Df) (sh : Shape) : List (Str × He.Dv) := d.kwd.filter fun q => !(sh.ks.contains q.1)
def nDfl (sh : Shape) : Nat := (sh.src.filter fun | .d _ => true | .e _ => false).length
def BindSh (d : Df) (sh : Shape) : Prop := match d.dfl, d.kwd with
  | [], [] => ∀ (kV doc pm : Value) (an : Option Addr) (cdv ct : Value) (us ws : List Value), us.length = sh.n → ws.length = sh.ks.length →
      bindArgs (PySem.W.fnOf d.name d.name d.params d.body d.scope .none kV doc pm an cdv ct) ⟨us, sh.ks.zip ws⟩ = pure (d.ps.zip (place sh.src (us ++ ws) []))
  | [], _ :: _ => ∀ (D : Addr) (doc pm : Value) (an : Option Addr) (cdv ct : Value) (us mv ws : List Value), us.length = sh.n → mv.length = (lackK d sh).length → ws.length = sh.ks.length →
      KwChain D (((lackK d sh).map (·.1)).zip mv) (bindArgs (PySem.W.fnOf d.name d.name d.params d.body d.scope .none (.ref D) doc pm an cdv ct) ⟨us, sh.ks.zip ws⟩) (d.ps.zip (place sh.src (us ++ ws) mv))
  | _ :: _, _ => ∀ (T : Addr) (kV doc pm : Value) (an : Option Addr) (cdv ct : Value) (us its ws : List Value), us.length = sh.n → its.length = d.dfl.length → ws.length = sh.ks.length →
      ∃ k, bindArgs (PySem.W.fnOf d.name d.name d.params d.body d.scope (.ref T) kV doc pm an cdv ct) ⟨us, sh.ks.zip ws⟩ = seqItems? (.ref T) >>= k ∧ k (some its.toArray) = pure (d.ps.zip (place sh.src (us ++ ws) (its.drop (d.dfl.length - nDfl sh))))
def StarSh (d : Df) : Prop := d.star = true → d.dfl = [] ∧ ∃ ps pv, d.ps = ps ++ [pv] ∧ ∀ (kV doc pm : Value) (an : Option Addr) (cdv ct : Value), StarBind (PySem.W.fnOf d.name d.name d.params d.body d.scope .none kV doc pm an cdv ct) ps pv
def BindOk (d : Df) : Prop := (∀ sh ∈ d.shapes, BindSh d sh) ∧ StarSh d
/-- the defaults that fill up -/
def fillOf (d : Df) (sh : Shape) : List He.Dv := match d.dfl with
  | [] => (lackK d sh).map (·.2)
  | _ :: _ => d.dfl.drop (d.dfl.length - nDfl sh)
def shB (d : Df) : Bool := d.shapes.all fun sh => srcB (sh.n + sh.ks.length) sh.src (fillOf d sh)
theorem rel3 {vs zs mz : List V} {us ws mv : List Value} (src : List Arg) (r : Vals vs us) (z : Vals zs ws) (m : Vals mz mv) : Vals (place src (vs ++ zs) mz) (place src (us ++ ws) mv) := place_rel (r.append z) src m
theorem bind_ok {K : PySem.W.Frag} {d : Df} {f : Addr} {fd : FuncData} (F : d.Fun K f fd) (hb : BindOk d) (hs : shB d = true) : ∀ sh ∈ d.shapes, ∃ g gV, KBn K fd d.ps sh.n sh.ks g gV ∧ ∀ vs zs : List V, vs.length = sh.n → zs.length = sh.ks.length → Pick K (vs ++ zs) sh.src (gV vs zs) := by
  intro sh hm
  have hb1 := hb.1 sh hm
  have hs1 : srcB (sh.n + sh.ks.length) sh.src (fillOf d sh) = true := List.all_eq_true.mp hs sh hm
  have pk : ∀ (vs zs : List V), vs.length = sh.n → zs.length = sh.ks.length → Pick K (vs ++ zs) sh.src (place sh.src (vs ++ zs) ((fillOf d sh).map (He.Dv.v K))) := fun vs zs l1 l2 => pick_of (by rw [List.length_append, l1, l2]; exact hs1)
  unfold BindSh at hb1
  unfold fillOf at pk
  split at hb1
  · rename_i e1 e2
    rw [e1] at pk
    have el : lackK d sh = [] := by unfold lackK; rw [e2]; rfl
    rw [el] at pk
    refine ⟨fun us ws => place sh.src (us ++ ws) [], fun vs zs => place sh.src (vs ++ zs) [], ⟨fun s us ws X l1 l2 => ?_, fun r1 r2 => rel3 _ r1 r2 .nil⟩, pk⟩
    obtain ⟨oc, od, dV, kV, doc, pm, an, cdv, ct, osl, rfl, lk, hcd, hD, hK⟩ := F.ex
    rcases hD with ⟨_, rfl⟩ | ⟨e, _⟩
    · exact .of_eq (hb1 kV doc pm an cdv ct us ws l1 l2)
    · exact absurd (by unfold Df.dvs; rw [e1]; rfl) e
  · rename_i q qs e1 e2
    rw [e1] at pk
    have F' : FunD K d.name d.name d.params d.body d.scope [] (d.kws K) f fd := by
      have F0 : FunD K d.name d.name d.params d.body d.scope (d.dvs K) (d.kws K) f fd := F
      rwa [show d.dvs K = [] by unfold Df.dvs; rw [e1]; rfl] at F0
    obtain ⟨mv, kb⟩ := FunD.kbinds0 (ps := d.ps) F' sh.n sh.ks ((lackK d sh).map fun q => (q.1, q.2.v K)) (fun {α} us mv ws => place sh.src (us ++ ws) mv) (by unfold Df.kws; rw [e2]; exact List.cons_ne_nil _ _) (fun z hz => by
      obtain ⟨y, hy, rfl⟩ := List.mem_map.mp hz
      exact List.mem_map.mpr ⟨y, (List.mem_filter.mp hy).1, rfl⟩) (fun r1 r2 r3 => rel3 _ r1 r3 r2) (fun D doc pm an cdv ct us mv ws l1 l2 l3 => by
      have := hb1 D doc pm an cdv ct us mv ws l1 (by simpa using l2) l3
      simpa [List.map_map, Function.comp_def] using this)
    have em : ((lackK d sh).map fun q => (q.1, q.2.v K)).map (·.2) = ((lackK d sh).map (·.2)).map (He.Dv.v K) := by simp [List.map_map, Function.comp_def]
    refine ⟨_, _, kb, ?_⟩
    rw [em]
    exact pk
  · rename_i q qs e1
    rw [e1] at pk
    have hne : d.dvs K ≠ [] := by unfold Df.dvs; rw [e1]; exact List.cons_ne_nil _ _
    have ll : (d.dvs K).length = d.dfl.length := by unfold Df.dvs; rw [List.length_map]
    obtain ⟨its, kb⟩ := FunD.kbindsD (ps := d.ps) F sh.n sh.ks (fun {α} us its ws => place sh.src (us ++ ws) (its.drop (d.dfl.length - nDfl sh))) hne (fun r1 r2 r3 => rel3 _ r1 r3 (r2.drop _)) (fun T kV doc pm an cdv ct us its ws l1 l2 l3 => hb1 T kV doc pm an cdv ct us its ws l1 (by rw [l2, ll]) l3)
    have em : (d.dvs K).drop (d.dfl.length - nDfl sh) = (d.dfl.drop (d.dfl.length - nDfl sh)).map (He.Dv.v K) := by unfold Df.dvs; rw [List.map_drop]
    refine ⟨_, _, kb, ?_⟩
    rw [em, e1]
    exact pk
theorem star_bind {K : PySem.W.Frag} {d : Df} {f : Addr} {fd : FuncData} (F : d.Fun K f fd) (hb : BindOk d) (hs : d.star = true) : ∃ ps pv, d.ps = ps ++ [pv] ∧ StarBind fd ps pv := by
  obtain ⟨e0, ps, pv, e1, e2⟩ := hb.2 hs
  obtain ⟨oc, od, dV, kV, doc, pm, an, cdv, ct, osl, rfl, lk, hcd, hD, hK⟩ := F.ex
  rcases hD with ⟨_, rfl⟩ | ⟨e, _⟩
  · exact ⟨ps, pv, e1, e2 kV doc pm an cdv ct⟩
  · exact absurd (by unfold Df.dvs; rw [e0]; rfl) e
def fnOfD (defs : List Df) : List He.DefD := defs.map fun d => ⟨(d.name, none), d.name, d.name, d.params, d.body, d.scope, d.dfl, d.kwd⟩
inductive Cn where
  | i (n : Int)
  | s (z : Str)
def Cn.d : Cn → D
  | .i n => .int n
  | .s z => .str z
def Cn.fa (x : Str) : Cn → He.Fa
  | .i n => .int x n
  | .s z => .str x z
def faOf (defs : List Df) (cs : List (Str × Cn)) : List He.Fa := (defs.map fun d => .glo d.name) ++ (noBs.map .free) ++ cs.map fun p => p.2.fa p.1
theorem head_of {defs : List Df} {cs : List (String × Cn)} {gi : Gi} {K : PySem.W.Frag} {h : Heap} {mg : Str → Option Value} (X : K.In h) (G : h.Ns mainGlobals mg) (c : He.SaysD (faOf defs (cs.map fun p => (Str.ofString p.1, p.2))) (fnOfD defs) K) (sy : SysOk K) (hc : gi.consts = cs.map fun p => (p.1, p.2.d))
    (hb : ∀ d ∈ defs, BindOk d) (hs : ∀ d ∈ defs, shB d = true) : HeadOk gi defs K mg := by
  have fact : ∀ f ∈ faOf defs (cs.map fun p => (Str.ofString p.1, p.2)), f.ok K = true := fun f hf => by
    obtain ⟨i, hi⟩ := List.mem_iff_getElem?.mp hf
    exact c.fact i hi
  refine ⟨fun n hn => He.free_ok X G (fact (.free n) ?_), fun p hp => ?_, sy, fun i d hi => ?_⟩
  · unfold faOf
    simp only [List.mem_append, List.mem_map]
    exact .inl (.inr ⟨n, hn, rfl⟩)
  · rw [hc] at hp
    obtain ⟨q, hq, rfl⟩ := List.mem_map.mp hp
    have hf : (q.2.fa (Str.ofString q.1)).ok K = true := fact _ (by
      unfold faOf
      simp only [List.mem_append, List.mem_map]
      exact .inr ⟨(Str.ofString q.1, q.2), ⟨q, hq, rfl⟩, rfl⟩)
    obtain ⟨x, n⟩ := q
    cases n with
    | i n =>
      obtain ⟨t, e⟩ := He.int_ok X G hf
      exact ⟨.int n, _, e, ⟨t, rfl⟩, fun F H => .int _⟩
    | s z =>
      obtain ⟨t, e⟩ := He.str_ok X G hf
      exact ⟨.str z, _, e, ⟨t, rfl⟩, fun F H => .str _⟩
  · have hm := List.mem_of_getElem? hi
    obtain ⟨fd, F⟩ := c.def_ i (d := ⟨(d.name, none), d.name, d.name, d.params, d.body, d.scope, d.dfl, d.kwd⟩) (by unfold fnOfD; rw [List.getElem?_map, hi]; rfl)
    have F' : d.Fun K (He.fAd K (d.name, none)) fd := F
    refine ⟨_, fd, F', He.glo_ok X G (fact (.glo d.name) ?_), bind_ok F' (hb d hm) (hs d hm), star_bind F' (hb d hm)⟩
    unfold faOf
    simp only [List.mem_append, List.mem_map]
    exact .inl (.inl ⟨d, hm, rfl⟩)
/-- the law's end over the table: li the law's place -/
theorem end_of {l : PySem.W.OpenLaw} {n k : Nat} {q : Program} {loose : List Str} {XP : (Str → Option Value) → Heap → Prop} {dr : DefRec} {defs : List Df} {cs : List (String × Cn)} {gi : Gi} {li : Nat} {dl : Df} {x : Str} (fuel m : Nat) (hn : l.most = some n) (hn2 : n ≤ sizeLine) (hdf : dr.params.defaults = []) (hr : Room k callerA)
    (hs : gi.sigs = sigsOf defs) (hc : gi.consts = cs.map fun p => (p.1, p.2.d)) (hb : ∀ d ∈ defs, BindOk d) (hsh : ∀ d ∈ defs, shB d = true) (hok : ∀ d ∈ defs, okDf gi d = true) (hsc : ∀ d ∈ defs, FnScope d.N d.ps d.scope) (hl : defs[li]? = some dl) (hnm : dr.name = dl.name) (hps : dl.ps = [x]) (hld : dl.dfl = [])
    (hbl : ∀ (kV doc pm : Value) (an : Option Addr) (cdv ct : Value) (u : Value), bindArgs (PySem.W.fnOf dl.name dl.name dl.params dl.body dl.scope .none kV doc pm an cdv ct) ⟨[u], []⟩ = pure [(x, u)])
    (hrun : ∀ ns : List Int, ns.length ≤ n → ∃ fin, run (defs.map (·.fd)) fuel k li [.sc ns] = .ret (.sh (.bool true)) fin) :
    PySem.W.WalkO q loose XP (hookX m (faOf defs (cs.map fun p => (Str.ofString p.1, p.2))) (fnOfD defs)).says l.row.toRowW dr [] (fun f vs => PySem.call f vs) := by
  refine walk_ofG (x := x) (k := k) hn hn2 hdf hr fun w mg fa h Y G hmg => ?_
  obtain ⟨K, KX, c0⟩ := Y
  obtain ⟨c, sy⟩ := c0.both
  obtain ⟨f, fd, F, e, _⟩ := (head_of (gi := gi) KX G c sy hc hb hsh).fn li dl hl
  rw [hnm, e] at hmg
  cases hmg
  refine ⟨K, fd, SpMi K noX (run (defs.map (·.fd)) fuel k li), KX, fun s u => ?_, fun H a ns hlen hO hS => law_sp hS (hrun ns hlen), fun base hK hns => ?_⟩
  · obtain ⟨oc, od, dV, kV, doc, pm, an, cdv, ct, osl, rfl, lk, hcd, hD, hK⟩ := F.ex
    rcases hD with ⟨_, rfl⟩ | ⟨e, _⟩
    · exact .of_eq (hbl kV doc pm an cdv ct u)
    · exact absurd (by unfold Df.dvs; rw [hld]; rfl) e
  · have T := (table (P := l.prog) (w := w) (base := base) noX fuel hs (head_of (gi := gi) KX G c sy hc hb hsh) hok hsc k li dl hl _ fd F).1
    rw [hps] at T
    exact T
end MI
namespace MI
open PySem
/-! ### running the small language -/
def Wp {α : Type} (o : Out α) (Q : α → Env → Prop) : Prop := match o with
  | .ok a ρ => Q a ρ
  | _ => False
theorem Wp.mono {α : Type} {o : Out α} {Q Q' : α → Env → Prop} (h : Wp o Q) (i : ∀ a ρ, Q a ρ → Q' a ρ) : Wp o Q' := by
  cases o with
  | ok a ρ => exact i a ρ h
  | ex x ρ => exact h
  | no => exact h
theorem wp_ok {α : Type} (a : α) (ρ : Env) (Q : α → Env → Prop) : Wp (.ok a ρ) Q = Q a ρ := rfl
theorem wp_no {α : Type} (Q : α → Env → Prop) : Wp (.no : Out α) Q = False := rfl
theorem wp_bind {α β : Type} (o : Out α) (f : α → Env → Out β) (Q : β → Env → Prop) : Wp (o.bind f) Q = Wp o fun a ρ => Wp (f a ρ) Q := by cases o <;> rfl
theorem wp_lift {α : Type} (o : Option α) (ρ : Env) (Q : α → Env → Prop) : Wp (Out.lift o ρ) Q = ∃ a, o = some a ∧ Q a ρ := by
  cases o with
  | none => simp [Wp, Out.lift]
  | some a => simp [Wp, Out.lift]
theorem wp_some {α : Type} (a : α) (ρ : Env) (Q : α → Env → Prop) : Wp (Out.lift (some a) ρ) Q = Q a ρ := rfl
theorem wp_ite {α : Type} {c : Prop} [Decidable c] (a b : Out α) (Q : α → Env → Prop) : Wp (if c then a else b) Q = if c then Wp a Q else Wp b Q := by split <;> rfl
/-- a def comes back -/
def Ret (o : FOut) (P : M → List M → Prop) : Prop := ∃ m fin, o = .ret m fin ∧ P m fin
theorem Ret.mono {o : FOut} {P P' : M → List M → Prop} (h : Ret o P) (i : ∀ m fin, P m fin → P' m fin) : Ret o P' := by
  obtain ⟨m, fin, e, p⟩ := h
  exact ⟨m, fin, e, i m fin p⟩
def endOf (P : M → List M → Prop) (ms : List M) (f : Fl) (ρ : Env) : Prop := match f with
  | .ret m => ∃ fin, finOf ρ ms 0 = some fin ∧ P m fin
  | .next => ∃ fin, finOf ρ ms 0 = some fin ∧ P (.sh .none) fin
  | _ => False
theorem ret_run {prog : List Fd} {fuel k f : Nat} {fd : Fd} {ms : List M} {P : M → List M → Prop} (hf : prog[f]? = some fd) (h1 : ms.length = fd.nP) (h2 : fd.nP ≤ fd.nS) (h3 : (ms.all fun m => !m.isOwn || m.pinned) = true)
    (h : Wp (evSs ⟨run prog fuel k, fuel⟩ fd.body (ms.map some ++ List.replicate (fd.nS - fd.nP) none)) (endOf P ms)) : Ret (run prog fuel (k + 1) f ms) P := by
  unfold run
  rw [hf]
  show Ret (runB _ fd ms) P
  unfold runB
  rw [if_pos ⟨h1, h2, h3⟩]
  cases e : evSs ⟨run prog fuel k, fuel⟩ fd.body (ms.map some ++ List.replicate (fd.nS - fd.nP) none) with
  | no => rw [e] at h; exact h.elim
  | ex x ρ => rw [e] at h; exact h.elim
  | ok fl ρ =>
    rw [e] at h
    cases fl with
    | ret m => obtain ⟨fin, e1, p⟩ := h; dsimp only; rw [e1]; exact ⟨m, fin, rfl, p⟩
    | next => obtain ⟨fin, e1, p⟩ := h; dsimp only; rw [e1]; exact ⟨_, fin, rfl, p⟩
    | brk => exact h.elim
    | cont => exact h.elim
/-- what a call leaves behind -/
theorem wp_call {cx : Cxt} {f : Nat} {rs : List R} {src : List Arg} {ρ : Env} {ms : List M} {P : M → List M → Prop} {Q : R → Env → Prop} (ha : argsOf ρ rs src = some ms) (hn : ((ownsOf ρ rs src).filterMap id).Nodup) (hs : srcOk rs.length src = true) (hr : Ret (cx.φ f ms) P)
    (h : ∀ m fin, P m fin → kinds ms fin = true ∧ Q m.res (backOf ρ (ownsOf ρ rs src) fin)) : Wp (callR cx f rs src ρ) Q := by
  obtain ⟨m, fin, e, p⟩ := hr
  obtain ⟨k, q⟩ := h m fin p
  unfold callR
  rw [ha]
  dsimp only
  rw [if_pos ⟨hn, hs⟩, e]
  dsimp only
  rw [if_pos k]
  exact q
end MI
namespace MI
open PySem
/-! ### stepping -/
def wpV (o : Option M) (i : Nat) (ρ : Env) (Q : R → Env → Prop) : Prop := match o with
  | some (.sh d) => Q (.val d) ρ
  | some (.ol _ _) => Q (.own i) ρ
  | some (.od _ _) => Q (.own i) ρ
  | some (.ob C fs) => Q (.ob C fs) ρ
  | some (.sc ns) => Q (.sc ns) ρ
  | none => False
/-- a value of an option, then Q -/
def wpO {α : Type} (o : Option α) (Q : α → Prop) : Prop := match o with
  | some a => Q a
  | none => False
/-- a truth, then Q -/
def wpI (b : Bool) (P Q : Prop) : Prop := if b = true then P else Q
@[simp] theorem wpV_sh (d : D) (i : Nat) (ρ : Env) (Q : R → Env → Prop) : wpV (some (.sh d)) i ρ Q = Q (.val d) ρ := rfl
@[simp] theorem wpV_ol (p : Bool) (xs : List D) (i : Nat) (ρ : Env) (Q : R → Env → Prop) : wpV (some (.ol p xs)) i ρ Q = Q (.own i) ρ := rfl
@[simp] theorem wpV_od (p : Bool) (xs : List (D × D)) (i : Nat) (ρ : Env) (Q : R → Env → Prop) : wpV (some (.od p xs)) i ρ Q = Q (.own i) ρ := rfl
@[simp] theorem wpV_sc (ns : List Int) (i : Nat) (ρ : Env) (Q : R → Env → Prop) : wpV (some (.sc ns)) i ρ Q = Q (.sc ns) ρ := rfl
@[simp] theorem wpO_some {α : Type} (a : α) (Q : α → Prop) : wpO (some a) Q = Q a := rfl
@[simp] theorem wpO_none {α : Type} (Q : α → Prop) : wpO none Q = False := rfl
theorem wpO_of {α : Type} {o : Option α} {a : α} {Q : α → Prop} (e : o = some a) (h : Q a) : wpO o Q := by rw [e]; exact h
@[simp] theorem wpI_true (P Q : Prop) : wpI true P Q = P := rfl
@[simp] theorem wpI_false (P Q : Prop) : wpI false P Q = Q := by simp [wpI]
theorem wp_liftO {α : Type} (o : Option α) (ρ : Env) (Q : α → Env → Prop) : Wp (Out.lift o ρ) Q = wpO o fun a => Q a ρ := by cases o <;> rfl
section
variable (cx : Cxt) (ρ : Env)
@[simp ↓] theorem s_ok {α : Type} (a : α) (Q : α → Env → Prop) : Wp (.ok a ρ) Q = Q a ρ := rfl
@[simp ↓] theorem s_bind {α β : Type} (o : Out α) (f : α → Env → Out β) (Q : β → Env → Prop) : Wp (o.bind f) Q = Wp o fun a ρ => Wp (f a ρ) Q := wp_bind o f Q
@[simp ↓] theorem s_lift {α : Type} (o : Option α) (Q : α → Env → Prop) : Wp (Out.lift o ρ) Q = wpO o fun a => Q a ρ := wp_liftO o ρ Q
variable (Q : R → Env → Prop)
@[simp ↓] theorem s_var (i : Nat) : Wp (evE cx (.var i) ρ) Q = wpV (ρ.get i) i ρ Q := by
  simp only [evE]
  cases e : ρ.get i with
  | none => rfl
  | some m => cases m <;> rfl
@[simp ↓] theorem s_int (i : Int) : Wp (evE cx (.int i) ρ) Q = Q (.val (.int i)) ρ := by simp only [evE]; rfl
@[simp ↓] theorem s_str (i : String) : Wp (evE cx (.str i) ρ) Q = Q (.val (.str (Str.ofString i))) ρ := by simp only [evE]; rfl
@[simp ↓] theorem s_bl (i : Bool) : Wp (evE cx (.bl i) ρ) Q = Q (.val (.bool i)) ρ := by simp only [evE]; rfl
@[simp ↓] theorem s_non : Wp (evE cx .non ρ) Q = Q (.val .none) ρ := by simp only [evE]; rfl
@[simp ↓] theorem s_glo (n : String) (d : D) : Wp (evE cx (.glo n d) ρ) Q = Q (.val d) ρ := by simp only [evE]; rfl
@[simp ↓] theorem s_tup (es : List Ex) : Wp (evE cx (.tup es) ρ) Q = Wp (evDs cx es ρ) fun ds ρ => ds.length ≤ Lim ∧ Q (.val (.tuple ds)) ρ := by
  simp only [evE, s_bind]
  congr 1
  funext ds ρ
  rw [wp_ite]
  by_cases h : ds.length ≤ Lim <;> simp [h, Wp]
@[simp ↓] theorem s_lst (es : List Ex) : Wp (evE cx (.lst es) ρ) Q = Wp (evDs cx es ρ) fun ds ρ => ds.length ≤ Lim ∧ Q (.new ds) ρ := by
  simp only [evE, s_bind]
  congr 1
  funext ds ρ
  rw [wp_ite]
  by_cases h : ds.length ≤ Lim <;> simp [h, Wp]
@[simp ↓] theorem s_dct : Wp (evE cx (.dct []) ρ) Q = Q (.newd []) ρ := by simp only [evE]; rfl
def negD : Option D → Option R
  | some (.int i) => some (.val (.int (-i)))
  | _ => none
@[simp] theorem negD_int (i : Int) : negD (some (.int i)) = some (.val (.int (-i))) := rfl
@[simp ↓] theorem s_neg (a : Ex) : Wp (evE cx (.neg a) ρ) Q = Wp (evE cx a ρ) fun r ρ => wpO (negD (r.cont ρ)) fun r => Q r ρ := by
  simp only [evE, s_bind]
  congr 1
  funext r ρ
  unfold negD
  cases r.cont ρ with
  | none => rfl
  | some d => cases d <;> rfl
@[simp ↓] theorem s_truthR (r : R) (Q : Bool → Env → Prop) : Wp (truthR r ρ) Q = wpO ((r.cont ρ).bind truth) fun b => Q b ρ := by unfold truthR; exact wp_liftO _ _ _
@[simp ↓] theorem s_not (a : Ex) : Wp (evE cx (.not a) ρ) Q = Wp (evE cx a ρ) fun r ρ => wpO ((r.cont ρ).bind truth) fun b => Q (.val (.bool (!b))) ρ := by
  simp only [evE, s_bind, s_truthR, s_ok]
@[simp ↓] theorem s_bin (o : Op) (a b : Ex) : Wp (evE cx (.bin o a b) ρ) Q = Wp (evE cx a ρ) fun ra ρ => Wp (evE cx b ρ) fun rb ρ => wpO ((ra.cont ρ).bind fun x => (rb.cont ρ).bind fun y => opBin o x y) fun r => Q r ρ := by
  simp only [evE, s_bind, s_lift]
@[simp ↓] theorem s_cmp (o : Cp) (a b : Ex) : Wp (evE cx (.cmp o a b) ρ) Q = Wp (evE cx a ρ) fun ra ρ => Wp (evE cx b ρ) fun rb ρ => wpO ((ra.cont ρ).bind fun x => (rb.cont ρ).bind fun y => opCmp o x y) fun c => Q (.val (.bool c)) ρ := by
  simp only [evE, s_bind, s_lift]
  congr 1
  funext ra ρ
  congr 1
  funext rb ρ
  cases ra.cont ρ with
  | none => rfl
  | some x =>
    cases rb.cont ρ with
    | none => rfl
    | some y =>
      show wpO ((opCmp o x y).map _) _ = wpO (opCmp o x y) _
      cases opCmp o x y <;> rfl
@[simp ↓] theorem s_chain (o p : Cp) (a b c : Ex) : Wp (evE cx (.chain o p a b c) ρ) Q = Wp (evE cx a ρ) fun ra ρ => Wp (evE cx b ρ) fun rb ρ => wpO ((ra.cont ρ).bind fun x => (rb.cont ρ).bind fun y => opCmp o x y) fun k =>
    wpI k (Wp (evE cx c ρ) fun rc ρ => wpO ((rb.cont ρ).bind fun y => (rc.cont ρ).bind fun z => opCmp p y z) fun c => Q (.val (.bool c)) ρ) (Q (.val (.bool false)) ρ) := by
  simp only [evE, s_bind, s_lift]
  congr 1
  funext ra ρ
  congr 1
  funext rb ρ
  congr 1
  funext k
  rw [wp_ite]
  unfold wpI
  congr 1
  simp only [s_bind, s_lift]
  congr 1
  funext rc ρ
  cases rb.cont ρ with
  | none => rfl
  | some x =>
    cases rc.cont ρ with
    | none => rfl
    | some y =>
      show wpO ((opCmp p x y).map _) _ = wpO (opCmp p x y) _
      cases opCmp p x y <;> rfl
def andD : R → Option Bool
  | .val (.bool b) => some b
  | _ => none
@[simp] theorem andD_b (b : Bool) : andD (.val (.bool b)) = some b := rfl
@[simp ↓] theorem s_and (a b : Ex) : Wp (evE cx (.and a b) ρ) Q = Wp (evE cx a ρ) fun r ρ => wpO (andD r) fun k => wpI k (Wp (evE cx b ρ) Q) (Q (.val (.bool false)) ρ) := by
  simp only [evE, s_bind]
  congr 1
  funext r ρ
  cases r with
  | val d =>
    cases d with
    | bool b => cases b <;> simp [andD, wpI, wpO, Wp]
    | _ => rfl
  | _ => rfl
@[simp ↓] theorem s_or (a b : Ex) : Wp (evE cx (.or a b) ρ) Q = Wp (evE cx a ρ) fun r ρ => wpO (andD r) fun k => wpI k (Q (.val (.bool true)) ρ) (Wp (evE cx b ρ) Q) := by
  simp only [evE, s_bind]
  congr 1
  funext r ρ
  cases r with
  | val d =>
    cases d with
    | bool b => cases b <;> simp [andD, wpI, wpO, Wp]
    | _ => rfl
  | _ => rfl
@[simp ↓] theorem s_ite (c a b : Ex) : Wp (evE cx (.ite c a b) ρ) Q = Wp (evT cx c ρ) fun k ρ => wpI k (Wp (evE cx a ρ) Q) (Wp (evE cx b ρ) Q) := by
  simp only [evE, s_bind, wp_ite, wpI]
@[simp ↓] theorem s_idx (a i : Ex) : Wp (evE cx (.idx a i) ρ) Q = Wp (evE cx a ρ) fun ra ρ => Wp (evE cx i ρ) fun ri ρ => wpO ((ra.cont ρ).bind fun x => (ri.cont ρ).bind fun y => opIdx x y) fun r => Q r ρ := by
  simp only [evE, s_bind, s_lift]
@[simp ↓] theorem s_sl (a : Ex) (lo hi : Option Ex) : Wp (evE cx (.sl a lo hi) ρ) Q = Wp (evE cx a ρ) fun ra ρ => Wp (evO cx lo ρ) fun l ρ => Wp (evO cx hi ρ) fun h ρ => wpO ((ra.contS ρ).bind fun x => opSl x l h) fun r => Q r ρ := by
  rw [evE_sl]
  simp only [s_bind, s_lift]
def intD' : D → Option (Option Int)
  | .int i => some (some i)
  | _ => none
@[simp] theorem intD'_i (i : Int) : intD' (.int i) = some (some i) := rfl
@[simp ↓] theorem s_O0 (Q : Option Int → Env → Prop) : Wp (evO cx none ρ) Q = Q none ρ := rfl
@[simp ↓] theorem s_O1 (e : Ex) (Q : Option Int → Env → Prop) : Wp (evO cx (some e) ρ) Q = Wp (evE cx e ρ) fun r ρ => Wp (MI.frz r ρ) fun d ρ => wpO (intD' d) fun i => Q i ρ := by
  unfold evO
  simp only [s_bind]
  congr 1
  funext r ρ
  congr 1
  funext d ρ
  cases d <;> rfl
@[simp ↓] theorem s_rev (a : Ex) : Wp (evE cx (.rev a) ρ) Q = Wp (evE cx a ρ) fun ra ρ => wpO ((ra.cont ρ).bind opRev) fun r => Q r ρ := by
  simp only [evE, s_bind, s_lift]
@[simp ↓] theorem s_isa (a : Ex) (ts : List Ty) (m : Bool) : Wp (evE cx (.isa a ts m) ρ) Q = Wp (evE cx a ρ) fun ra ρ => wpO (ra.cont ρ) fun d => Q (.val (.bool (ts.any fun t => isTy t d))) ρ := by
  simp only [evE, s_bind, s_lift]
  congr 1
  funext r ρ
  cases r.cont ρ <;> rfl
@[simp ↓] theorem s_bi1 (f : Bi) (a : Ex) : Wp (evE cx (.bi1 f a) ρ) Q = Wp (evE cx a ρ) fun ra ρ => wpO ((ra.cont ρ).bind (opB1 f)) fun r => Q r ρ := by
  simp only [evE, s_bind, s_lift]
@[simp ↓] theorem s_bi2 (f : Bi) (a b : Ex) : Wp (evE cx (.bi2 f a b) ρ) Q = Wp (evE cx a ρ) fun ra ρ => Wp (evE cx b ρ) fun rb ρ => wpO ((ra.cont ρ).bind fun x => (rb.cont ρ).bind fun y => opB2 f x y) fun r => Q r ρ := by
  simp only [evE, s_bind, s_lift]
def wpM (o : Option M) (Q : Bool → List D → Prop) : Prop := match o with
  | some (.ol p xs) => Q p xs
  | _ => False
@[simp] theorem wpM_ol (p : Bool) (xs : List D) (Q : Bool → List D → Prop) : wpM (some (.ol p xs)) Q = Q p xs := rfl
@[simp ↓] theorem s_mu (m : Mu) (i : Nat) (es : List Ex) : Wp (evE cx (.mu m i es) ρ) Q = wpM (ρ.get i) fun _ _ => Wp (evDs cx es ρ) fun ds ρ => wpM (ρ.get i) fun p xs => wpO (opMu m xs ds) fun r => Q (.val r.1) (ρ.set i (some (.ol p r.2))) := by
  simp only [evE]
  unfold wpM
  cases ρ.get i with
  | none => rfl
  | some m0 =>
    cases m0 with
    | ol p xs =>
      dsimp only
      rw [s_bind]
      congr 1
      funext ds ρ
      cases ρ.get i with
      | none => rfl
      | some m' =>
        cases m' with
        | ol p xs =>
          dsimp only
          cases opMu m xs ds with
          | none => rfl
          | some r => rfl
        | _ => rfl
    | _ => rfl
@[simp ↓] theorem s_call (f : Nat) (es : List Ex) (refs : List Bool) (src : List Arg) : Wp (evE cx (.call f es refs src) ρ) Q = Wp (evRs cx es refs ρ) fun rs ρ => Wp (callR cx f rs src ρ) Q := by
  simp only [evE, s_bind]
@[simp ↓] theorem s_frz_val (d : D) (Q : D → Env → Prop) : Wp (MI.frz (.val d) ρ) Q = Q d ρ := rfl
@[simp ↓] theorem s_frz_new (d : List D) (Q : D → Env → Prop) : Wp (MI.frz (.new d) ρ) Q = Q (.list d) ρ := rfl
@[simp ↓] theorem s_frz_newd (d : List (D × D)) (Q : D → Env → Prop) : Wp (MI.frz (.newd d) ρ) Q = Q (.dict d) ρ := rfl
def wpF (o : Option M) (i : Nat) (ρ : Env) (Q : D → Env → Prop) : Prop := match o with
  | some (.sh d) => Q d ρ
  | some (.ol false xs) => Q (.list xs) (ρ.set i (some (.sh (.list xs))))
  | some (.od false kvs) => Q (.dict kvs) (ρ.set i (some (.sh (.dict kvs))))
  | _ => False
@[simp] theorem wpF_sh (d : D) (i : Nat) (Q : D → Env → Prop) : wpF (some (.sh d)) i ρ Q = Q d ρ := rfl
@[simp] theorem wpF_ol (d : List D) (i : Nat) (Q : D → Env → Prop) : wpF (some (.ol false d)) i ρ Q = Q (.list d) (ρ.set i (some (.sh (.list d)))) := rfl
@[simp ↓] theorem s_frz_own (i : Nat) (Q : D → Env → Prop) : Wp (MI.frz (.own i) ρ) Q = wpF (ρ.get i) i ρ Q := by
  unfold MI.frz wpF
  dsimp only
  cases ρ.get i with
  | none => rfl
  | some m =>
    cases m with
    | ol p xs => cases p <;> rfl
    | od p xs => cases p <;> rfl
    | _ => rfl
@[simp ↓] theorem s_nil (Q : List D → Env → Prop) : Wp (evDs cx [] ρ) Q = Q [] ρ := by simp only [evDs]; rfl
@[simp ↓] theorem s_cons (e : Ex) (es : List Ex) (Q : List D → Env → Prop) : Wp (evDs cx (e :: es) ρ) Q = Wp (evE cx e ρ) fun r ρ => Wp (MI.frz r ρ) fun d ρ => Wp (evDs cx es ρ) fun ds ρ => Q (d :: ds) ρ := by
  simp only [evDs, s_bind, s_ok]
@[simp ↓] theorem s_rnil (refs : List Bool) (Q : List R → Env → Prop) : Wp (evRs cx [] refs ρ) Q = Q [] ρ := by simp only [evRs]; rfl
@[simp ↓] theorem s_rcons (e : Ex) (es : List Ex) (b : Bool) (refs : List Bool) (Q : List R → Env → Prop) : Wp (evRs cx (e :: es) (b :: refs) ρ) Q = Wp (evE cx e ρ) fun r ρ => Wp (R.pass b r ρ) fun r ρ => Wp (evRs cx es refs ρ) fun rs ρ => Q (r :: rs) ρ := by
  simp only [evRs, s_bind, s_ok, List.headD_cons, List.tail_cons]
@[simp ↓] theorem s_pass_val (b : Bool) (d : D) : Wp (R.pass b (.val d) ρ) Q = Q (.val d) ρ := by cases b <;> rfl
@[simp ↓] theorem s_pass_new (b : Bool) (d : List D) : Wp (R.pass b (.new d) ρ) Q = Q (.val (.list d)) ρ := by cases b <;> rfl
@[simp ↓] theorem s_pass_sc (b : Bool) (d : List Int) : Wp (R.pass b (.sc d) ρ) Q = Q (.sc d) ρ := by cases b <;> rfl
@[simp ↓] theorem s_pass_own (i : Nat) : Wp (R.pass true (.own i) ρ) Q = Q (.own i) ρ := rfl
@[simp ↓] theorem s_pass_frz (i : Nat) : Wp (R.pass false (.own i) ρ) Q = Wp (MI.frz (.own i) ρ) fun d ρ => Q (.val d) ρ := by
  show Wp ((MI.frz (.own i) ρ).bind _) Q = _
  rw [s_bind]
  rfl
end
/-! tests -/
section
variable (cx : Cxt) (ρ : Env) (Q : Bool → Env → Prop)
@[simp ↓] theorem t_and (a b : Ex) : Wp (evT cx (.and a b) ρ) Q = Wp (evT cx a ρ) fun k ρ => wpI k (Wp (evT cx b ρ) Q) (Q false ρ) := by
  simp only [evT, s_bind, wp_ite, wpI, s_ok]
@[simp ↓] theorem t_or (a b : Ex) : Wp (evT cx (.or a b) ρ) Q = Wp (evT cx a ρ) fun k ρ => wpI k (Q true ρ) (Wp (evT cx b ρ) Q) := by
  simp only [evT, s_bind, wp_ite, wpI, s_ok]
@[simp ↓] theorem t_not (a : Ex) : Wp (evT cx (.not a) ρ) Q = Wp (evT cx a ρ) fun k ρ => Q (!k) ρ := by
  simp only [evT, s_bind, s_ok]
theorem t_val {e : Ex} (h : evT cx e ρ = (evE cx e ρ).bind truthR) : Wp (evT cx e ρ) Q = Wp (evE cx e ρ) fun r ρ => wpO ((r.cont ρ).bind truth) fun b => Q b ρ := by
  rw [h]
  simp only [s_bind, s_truthR]
@[simp ↓] theorem t_var (i : Nat) : Wp (evT cx (.var i) ρ) Q = Wp (evE cx (.var i) ρ) fun r ρ => wpO ((r.cont ρ).bind truth) fun b => Q b ρ := t_val cx ρ Q (by simp only [evT])
@[simp ↓] theorem t_bl (i : Bool) : Wp (evT cx (.bl i) ρ) Q = Wp (evE cx (.bl i) ρ) fun r ρ => wpO ((r.cont ρ).bind truth) fun b => Q b ρ := t_val cx ρ Q (by simp only [evT])
@[simp ↓] theorem t_cmp (o : Cp) (a b : Ex) : Wp (evT cx (.cmp o a b) ρ) Q = Wp (evE cx (.cmp o a b) ρ) fun r ρ => wpO ((r.cont ρ).bind truth) fun b => Q b ρ := t_val cx ρ Q (by simp only [evT])
@[simp ↓] theorem t_chain (o p : Cp) (a b c : Ex) : Wp (evT cx (.chain o p a b c) ρ) Q = Wp (evE cx (.chain o p a b c) ρ) fun r ρ => wpO ((r.cont ρ).bind truth) fun b => Q b ρ := t_val cx ρ Q (by simp only [evT])
@[simp ↓] theorem t_isa (a : Ex) (ts : List Ty) (m : Bool) : Wp (evT cx (.isa a ts m) ρ) Q = Wp (evE cx (.isa a ts m) ρ) fun r ρ => wpO ((r.cont ρ).bind truth) fun b => Q b ρ := t_val cx ρ Q (by simp only [evT])
@[simp ↓] theorem t_call (f : Nat) (es : List Ex) (refs : List Bool) (src : List Arg) : Wp (evT cx (.call f es refs src) ρ) Q = Wp (evE cx (.call f es refs src) ρ) fun r ρ => wpO ((r.cont ρ).bind truth) fun b => Q b ρ := t_val cx ρ Q (by simp only [evT])
@[simp ↓] theorem t_bi1 (f : Bi) (a : Ex) : Wp (evT cx (.bi1 f a) ρ) Q = Wp (evE cx (.bi1 f a) ρ) fun r ρ => wpO ((r.cont ρ).bind truth) fun b => Q b ρ := t_val cx ρ Q (by simp only [evT])
@[simp ↓] theorem t_idx (a b : Ex) : Wp (evT cx (.idx a b) ρ) Q = Wp (evE cx (.idx a b) ρ) fun r ρ => wpO ((r.cont ρ).bind truth) fun b => Q b ρ := t_val cx ρ Q (by simp only [evT])
end
@[simp] theorem truth_b (b : Bool) : truth (.bool b) = some b := rfl
@[simp] theorem truth_i (b : Int) : truth (.int b) = some (b != 0) := rfl
@[simp] theorem truth_l (b : List D) : truth (.list b) = some (!b.isEmpty) := rfl
@[simp] theorem truth_t (b : List D) : truth (.tuple b) = some (!b.isEmpty) := rfl
@[simp] theorem cont_val (d : D) (ρ : Env) : R.cont ρ (.val d) = some d := rfl
@[simp] theorem cont_new (d : List D) (ρ : Env) : R.cont ρ (.new d) = some (.list d) := rfl
@[simp] theorem cont_newd (d : List (D × D)) (ρ : Env) : R.cont ρ (.newd d) = some (.dict d) := rfl
@[simp] theorem cont_own (i : Nat) (ρ : Env) : R.cont ρ (.own i) = (ρ.get i).bind M.cont := rfl
@[simp] theorem contS_sc (ns : List Int) (ρ : Env) : R.contS ρ (.sc ns) = some (.list (ns.map .int)) := rfl
@[simp] theorem contS_val (d : D) (ρ : Env) : R.contS ρ (.val d) = some d := rfl
@[simp] theorem contS_new (d : List D) (ρ : Env) : R.contS ρ (.new d) = some (.list d) := rfl
@[simp] theorem contS_own (i : Nat) (ρ : Env) : R.contS ρ (.own i) = (ρ.get i).bind M.cont := rfl
@[simp] theorem mcont_sh (d : D) : M.cont (.sh d) = some d := rfl
@[simp] theorem mcont_ol (p : Bool) (d : List D) : M.cont (.ol p d) = some (.list d) := rfl
@[simp] theorem get_zero (x : Option M) (ρ : Env) : Env.get (x :: ρ) 0 = x := by unfold Env.get; cases x <;> rfl
@[simp] theorem get_succ (x : Option M) (ρ : Env) (n : Nat) : Env.get (x :: ρ) (n + 1) = Env.get ρ n := rfl
end MI
namespace MI
open PySem
/-- goes on, or ends -/
def wpN (f : Fl) (ρ : Env) (K : Env → Prop) (Q : Fl → Env → Prop) : Prop := match f with
  | .next => K ρ
  | f => Q f ρ
@[simp] theorem wpN_next (ρ : Env) (K : Env → Prop) (Q : Fl → Env → Prop) : wpN .next ρ K Q = K ρ := rfl
@[simp] theorem wpN_ret (m : M) (ρ : Env) (K : Env → Prop) (Q : Fl → Env → Prop) : wpN (.ret m) ρ K Q = Q (.ret m) ρ := rfl
@[simp] theorem wpN_brk (ρ : Env) (K : Env → Prop) (Q : Fl → Env → Prop) : wpN .brk ρ K Q = Q .brk ρ := rfl
@[simp] theorem wpN_cont (ρ : Env) (K : Env → Prop) (Q : Fl → Env → Prop) : wpN .cont ρ K Q = Q .cont ρ := rfl
@[simp] theorem free_none (ρ : Env) : free (none :: ρ) 0 = true := by simp [free, Env.get]
@[simp] theorem free_some (m : M) (ρ : Env) : free (some m :: ρ) 0 = !m.pinned := by simp [free]
@[simp] theorem free_succ (x : Option M) (ρ : Env) (n : Nat) : free (x :: ρ) (n + 1) = free ρ n := by simp [free]
@[simp] theorem pin_sh (d : D) : M.pinned (.sh d) = false := rfl
@[simp] theorem pin_ol (p : Bool) (d : List D) : M.pinned (.ol p d) = p := rfl
@[simp] theorem pin_sc (d : List Int) : M.pinned (.sc d) = false := rfl
section
variable (cx : Cxt) (ρ : Env)
@[simp ↓] theorem p_val (i : Nat) (d : D) (Q : Unit → Env → Prop) : Wp (putR i (.val d) ρ) Q = wpI (free ρ i) (Q () (ρ.set i (some (.sh d)))) False := by
  show Wp (if free ρ i then Out.ok () (ρ.set i (some (.sh d))) else .no) Q = _
  rw [wp_ite]
  rfl
@[simp ↓] theorem p_new (i : Nat) (d : List D) (Q : Unit → Env → Prop) : Wp (putR i (.new d) ρ) Q = wpI (free ρ i) (Q () (ρ.set i (some (.ol false d)))) False := by
  show Wp (if free ρ i then Out.ok () (ρ.set i (some (.ol false d))) else .no) Q = _
  rw [wp_ite]
  rfl
@[simp ↓] theorem p_own (i j : Nat) (Q : Unit → Env → Prop) : Wp (putR i (.own j) ρ) Q = Wp (MI.frz (.own j) ρ) fun d ρ => wpI (free ρ i) (Q () (ρ.set i (some (.sh d)))) False := by
  show Wp ((MI.frz (.own j) ρ).bind fun d ρ => if free ρ i then Out.ok () (ρ.set i (some (.sh d))) else .no) Q = _
  rw [s_bind]
  congr 1
  funext d ρ
  rw [wp_ite]
  rfl
@[simp] theorem r_val (d : D) : retM (.val d) ρ = some (.sh d) := rfl
@[simp] theorem r_new (d : List D) : retM (.new d) ρ = some (.ol false d) := rfl
def retO : Option M → Option M
  | some (.ol false xs) => some (.ol false xs)
  | some (.od false kvs) => some (.od false kvs)
  | some (.sh d) => some (.sh d)
  | _ => none
@[simp] theorem retO_ol (xs : List D) : retO (some (.ol false xs)) = some (.ol false xs) := rfl
@[simp] theorem retO_sh (d : D) : retO (some (.sh d)) = some (.sh d) := rfl
@[simp] theorem r_own (i : Nat) : retM (.own i) ρ = retO (ρ.get i) := rfl
variable (Q : Fl → Env → Prop)
@[simp ↓] theorem q_nil : Wp (evSs cx [] ρ) Q = Q .next ρ := by simp only [evSs]; rfl
@[simp ↓] theorem q_cons (st : Sx) (sts : List Sx) : Wp (evSs cx (st :: sts) ρ) Q = Wp (evS cx st ρ) fun f ρ => wpN f ρ (fun ρ => Wp (evSs cx sts ρ) Q) Q := by
  simp only [evSs, s_bind]
  congr 1
  funext f ρ
  cases f <;> rfl
@[simp ↓] theorem q_asg (i : Nat) (e : Ex) : Wp (evS cx (.asg i e) ρ) Q = Wp (evE cx e ρ) fun r ρ => Wp (putR i r ρ) fun _ ρ => Q .next ρ := by
  simp only [evS, s_bind, s_ok]
@[simp ↓] theorem q_unp (is : List Nat) (e : Ex) : Wp (evS cx (.unp is e) ρ) Q = Wp (evE cx e ρ) fun r ρ => Wp (MI.frz r ρ) fun d ρ => wpO (Tg.put (.tup (is.map .name)) d ρ) fun ρ => Q .next ρ := by
  simp only [evS, s_bind, s_ok, s_lift]
@[simp] theorem intAt_i (k : Int) : intAt (some (.int k)) = some k := rfl
@[simp ↓] theorem q_setI (i : Nat) (ix e : Ex) : Wp (evS cx (.setI i ix e) ρ) Q = Wp (evE cx e ρ) fun r ρ => Wp (MI.frz r ρ) fun d ρ => wpM (ρ.get i) fun _ _ => Wp (evE cx ix ρ) fun r ρ => wpM (ρ.get i) fun p xs => wpO (intAt (r.cont ρ)) fun k => wpO (ixOf xs.length k) fun j =>
    Q .next (ρ.set i (some (.ol p (xs.set j d)))) := by
  simp only [evS, s_bind]
  congr 1
  funext r ρ
  congr 1
  funext d ρ
  unfold wpM
  cases ρ.get i with
  | none => rfl
  | some m =>
    cases m with
    | ol p xs =>
      dsimp only
      rw [s_bind]
      congr 1
      funext r ρ
      cases ρ.get i with
      | none => rfl
      | some m =>
        cases m with
        | ol p xs =>
          dsimp only
          cases intAt (r.cont ρ) with
          | none => rfl
          | some k =>
            dsimp only
            rw [wpO_some]
            cases ixOf xs.length k <;> rfl
        | _ => rfl
    | _ => rfl
@[simp ↓] theorem q_expr (e : Ex) : Wp (evS cx (.expr e) ρ) Q = Wp (evE cx e ρ) fun _ ρ => Q .next ρ := by simp only [evS, s_bind, s_ok]
@[simp ↓] theorem q_ret (e : Ex) : Wp (evS cx (.ret e) ρ) Q = Wp (evE cx e ρ) fun r ρ => wpO (retM r ρ) fun m => Q (.ret m) ρ := by
  simp only [evS, s_bind]
  congr 1
  funext r ρ
  cases retM r ρ <;> rfl
@[simp ↓] theorem q_retN : Wp (evS cx .retN ρ) Q = Q (.ret (.sh .none)) ρ := by simp only [evS]; rfl
@[simp ↓] theorem q_pass : Wp (evS cx .pass ρ) Q = Q .next ρ := by simp only [evS]; rfl
@[simp ↓] theorem q_ite (c : Ex) (a b : List Sx) : Wp (evS cx (.ite c a b) ρ) Q = Wp (evT cx c ρ) fun k ρ => wpI k (Wp (evSs cx a ρ) Q) (Wp (evSs cx b ρ) Q) := by
  simp only [evS, s_bind, wp_ite, wpI]
def forF (cx : Cxt) (tg : Tg) (b : List Sx) (d : D) (ρ : Env) : Out Fl := match Tg.put tg d ρ with
  | none => .no
  | some ρ => evSs cx b ρ
@[simp ↓] theorem q_forF (tg : Tg) (b : List Sx) (d : D) : Wp (forF cx tg b d ρ) Q = wpO (Tg.put tg d ρ) fun ρ => Wp (evSs cx b ρ) Q := by
  unfold forF
  cases Tg.put tg d ρ <;> rfl
@[simp ↓] theorem q_for (tg : Tg) (it : It) (b : List Sx) : Wp (evS cx (.for tg it b) ρ) Q = Wp (evI cx it ρ) fun items ρ => Wp (forL (forF cx tg b) items ρ) Q := by
  simp only [evS, s_bind]
  rfl
variable (Qi : List D → Env → Prop)
@[simp ↓] theorem i_seq (e : Ex) : Wp (evI cx (.seq e) ρ) Qi = Wp (evE cx e ρ) fun r ρ => Wp (MI.frz r ρ) fun d ρ => wpO (seqOf d) fun ds => Qi ds ρ := by simp only [evI, s_bind, s_lift]
@[simp ↓] theorem i_rng (es : List Ex) : Wp (evI cx (.rng es) ρ) Qi = Wp (evDs cx es ρ) fun ds ρ => wpO (rngOf ds) fun ds => Qi ds ρ := by simp only [evI, s_bind, s_lift]
@[simp ↓] theorem i_enum (e : Ex) : Wp (evI cx (.enum e) ρ) Qi = Wp (evE cx e ρ) fun r ρ => Wp (MI.frz r ρ) fun d ρ => wpO ((seqOf d).map (enumD 0)) fun ds => Qi ds ρ := by simp only [evI, s_bind, s_lift]
@[simp ↓] theorem i_zip (a b : Ex) : Wp (evI cx (.zip a b) ρ) Qi = Wp (evE cx a ρ) fun r ρ => Wp (MI.frz r ρ) fun d ρ => Wp (evE cx b ρ) fun r ρ => Wp (MI.frz r ρ) fun e ρ => wpO (zipOf d e) fun ds => Qi ds ρ := by simp only [evI, s_bind, s_lift]
end
@[simp] theorem seqOf_l (xs : List D) : seqOf (.list xs) = some xs := rfl
@[simp] theorem seqOf_t (xs : List D) : seqOf (.tuple xs) = some xs := rfl
@[simp] theorem lstOf_l (xs : List D) : lstOf (.list xs) = some xs := rfl
@[simp] theorem put_name (i : Nat) (d : D) (ρ : Env) : Tg.put (.name i) d ρ = gd (free ρ i) (ρ.set i (some (.sh d))) := by simp only [Tg.put]
@[simp] theorem put_tup (ts : List Tg) (ds : List D) (ρ : Env) : Tg.put (.tup ts) (.tuple ds) ρ = Tg.puts ts ds ρ := by simp only [Tg.put]
@[simp] theorem put_tupL (ts : List Tg) (ds : List D) (ρ : Env) : Tg.put (.tup ts) (.list ds) ρ = Tg.puts ts ds ρ := by simp only [Tg.put]
@[simp] theorem puts_nil (ρ : Env) : Tg.puts [] [] ρ = some ρ := by simp only [Tg.puts]
@[simp] theorem puts_cons (t : Tg) (ts : List Tg) (d : D) (ds : List D) (ρ : Env) : Tg.puts (t :: ts) (d :: ds) ρ = (Tg.put t d ρ).bind (Tg.puts ts ds) := by simp only [Tg.puts]
@[simp] theorem gd_true {α : Type} (a : α) : gd true a = some a := rfl
/-! ### loops -/
def forQ (Inv : Nat → Env → Prop) (i : Nat) (Q : Fl → Env → Prop) (fl : Fl) (ρ : Env) : Prop := match fl with
  | .next => Inv (i + 1) ρ
  | .cont => Inv (i + 1) ρ
  | .brk => Q .next ρ
  | .ret m => Q (.ret m) ρ
theorem wp_forL {f : D → Env → Out Fl} {items : List D} {ρ : Env} {Q : Fl → Env → Prop} (Inv : Nat → Env → Prop) (h0 : Inv 0 ρ) (step : ∀ i d ρ, items[i]? = some d → Inv i ρ → Wp (f d ρ) (forQ Inv i Q)) (fin : ∀ ρ, Inv items.length ρ → Q .next ρ) : Wp (forL f items ρ) Q := by
  have key : ∀ (n i : Nat) (ρ : Env), items.length - i = n → i ≤ items.length → Inv i ρ → Wp (forL f (items.drop i) ρ) Q := by
    intro n
    induction n with
    | zero =>
      intro i ρ hn hi h
      have e : i = items.length := by omega
      subst e
      rw [List.drop_length]
      exact fin ρ h
    | succ n ih =>
      intro i ρ hn hi h
      have hl : i < items.length := by omega
      rw [List.drop_eq_getElem_cons hl]
      unfold forL
      have st := step i items[i] ρ (by simp [hl]) h
      cases e : f items[i] ρ with
      | no => rw [e] at st; exact st.elim
      | ex z ρ1 => rw [e] at st; exact st.elim
      | ok fl ρ1 =>
        rw [e] at st
        cases fl with
        | next => exact ih (i + 1) ρ1 (by omega) (by omega) st
        | cont => exact ih (i + 1) ρ1 (by omega) (by omega) st
        | brk => exact st
        | ret m => exact st
  simpa using key _ 0 ρ rfl (Nat.zero_le _) h0
@[simp ↓] theorem q_turn (cx : Cxt) (elt : Ex) (tg : Tg) (c : Option Ex) (d : D) (ρ : Env) (Q : Option D → Env → Prop) : Wp (turnEv cx elt tg c d ρ) Q = wpO (Tg.put tg d (wipeE ρ tg.vars)) fun ρ => Wp (condEv cx c ρ) fun k ρ => wpI k (Wp (evE cx elt ρ) fun r ρ => Wp (MI.frz r ρ) fun d ρ => Q (some d) ρ) (Q none ρ) := by
  unfold turnEv
  cases Tg.put tg d (wipeE ρ tg.vars) with
  | none => rfl
  | some ρ =>
    show Wp ((condEv cx c ρ).bind _) Q = _
    simp only [s_bind, wp_ite, wpI, s_ok]
    rfl
@[simp ↓] theorem q_cond0 (cx : Cxt) (ρ : Env) (Q : Bool → Env → Prop) : Wp (condEv cx none ρ) Q = Q true ρ := rfl
@[simp ↓] theorem q_cond1 (cx : Cxt) (e : Ex) (ρ : Env) (Q : Bool → Env → Prop) : Wp (condEv cx (some e) ρ) Q = Wp (evT cx e ρ) Q := rfl
/-- a comprehension, from its items on -/
def wpC (cx : Cxt) (elt : Ex) (tg : Tg) (c : Option Ex) (items : List D) (ρ1 : Env) (Q : R → Env → Prop) : Prop := keepOk tg.vars ρ1 = true ∧ Wp (compL (turnEv cx elt tg c) items [] ρ1) fun acc ρ2 => Q (.new acc) (backE ρ2 ρ1 tg.vars)
@[simp ↓] theorem s_comp (cx : Cxt) (elt : Ex) (tg : Tg) (it : It) (c : Option Ex) (ρ : Env) (Q : R → Env → Prop) : Wp (evE cx (.comp elt tg it c) ρ) Q = Wp (evI cx it ρ) fun items ρ1 => wpC cx elt tg c items ρ1 Q := by
  rw [evE_comp, s_bind]
  congr 1
  funext items ρ1
  unfold wpC
  by_cases h : keepOk tg.vars ρ1 = true
  · rw [if_pos h]
    cases compL (turnEv cx elt tg c) items [] ρ1 <;> simp [Wp, h]
  · rw [if_neg h]
    simp [Wp, h]
def compQ (Inv : Nat → List D → Env → Prop) (i : Nat) (acc : List D) (o : Option D) (ρ : Env) : Prop := match o with
  | some x => acc.length < Lim ∧ Inv (i + 1) (acc ++ [x]) ρ
  | none => Inv (i + 1) acc ρ
theorem wp_compL {f : D → Env → Out (Option D)} {items : List D} {ρ : Env} {Q : List D → Env → Prop} (Inv : Nat → List D → Env → Prop) (h0 : Inv 0 [] ρ) (step : ∀ i d acc ρ, items[i]? = some d → Inv i acc ρ → Wp (f d ρ) (compQ Inv i acc)) (fin : ∀ acc ρ, Inv items.length acc ρ → Q acc ρ) : Wp (compL f items [] ρ) Q := by
  have key : ∀ (n i : Nat) (acc : List D) (ρ : Env), items.length - i = n → i ≤ items.length → Inv i acc ρ → Wp (compL f (items.drop i) acc ρ) Q := by
    intro n
    induction n with
    | zero =>
      intro i acc ρ hn hi h
      have e : i = items.length := by omega
      subst e
      rw [List.drop_length]
      exact fin acc ρ h
    | succ n ih =>
      intro i acc ρ hn hi h
      have hl : i < items.length := by omega
      rw [List.drop_eq_getElem_cons hl]
      unfold compL
      have st := step i items[i] acc ρ (by simp [hl]) h
      cases e : f items[i] ρ with
      | no => rw [e] at st; exact st.elim
      | ex z ρ1 => rw [e] at st; exact st.elim
      | ok o ρ1 =>
        rw [e] at st
        cases o with
        | none => exact ih (i + 1) acc ρ1 (by omega) (by omega) st
        | some x =>
          dsimp only
          rw [if_pos st.1]
          exact ih (i + 1) _ ρ1 (by omega) (by omega) st.2
  simpa using key _ 0 [] ρ rfl (Nat.zero_le _) h0
theorem back_same {ρ ρ1 : Env} {vs : List Nat} (h : wipeE ρ vs = wipeE ρ1 vs) (hl : ∀ v ∈ vs, v < ρ1.length) : backE ρ ρ1 vs = ρ1 := by
  have len : ρ.length = ρ1.length := by
    have := congrArg List.length h
    rwa [wipeE_len, wipeE_len] at this
  apply List.ext_getElem?
  intro i
  by_cases hi : i < ρ1.length
  · have e : ∀ ρ2 : Env, i < ρ2.length → ρ2[i]? = some (Env.get ρ2 i) := fun ρ2 h => by
      unfold Env.get
      rw [List.getElem?_eq_getElem h]
      rfl
    rw [e _ (by rw [backE_len, len]; exact hi), e _ hi]
    congr 1
    by_cases hv : i ∈ vs
    · exact backE_in hv fun v hv => by rw [len]; exact hl v hv
    · rw [backE_out hv, ← wipeE_out (ρ := ρ) hv, h, wipeE_out hv]
  · rw [List.getElem?_eq_none (by rw [backE_len, len]; omega), List.getElem?_eq_none (by omega)]
/-- where nothing is changed: the items by a plain function -/
theorem wp_pure {cx : Cxt} {elt : Ex} {tg : Tg} {c : Option Ex} {items : List D} {ρ1 : Env} {Q : R → Env → Prop} (g : D → Option D) (hk : keepOk tg.vars ρ1 = true) (hl : items.length ≤ Lim)
    (step : ∀ d ∈ items, wpO (Tg.put tg d (wipeE ρ1 tg.vars)) fun ρ => Wp (condEv cx c ρ) fun k ρ => wpI k (Wp (evE cx elt ρ) fun r ρ => Wp (MI.frz r ρ) fun x ρ => g d = some x ∧ wipeE ρ tg.vars = wipeE ρ1 tg.vars) (g d = none ∧ wipeE ρ tg.vars = wipeE ρ1 tg.vars))
    (q : Q (.new (items.filterMap g)) ρ1) : wpC cx elt tg c items ρ1 Q := by
  have hv : ∀ v ∈ tg.vars, v < ρ1.length := fun v hv => by
    have := List.all_eq_true.mp hk v hv
    simp only [Bool.and_eq_true, decide_eq_true_eq] at this
    exact this.1
  refine ⟨hk, wp_compL (fun i acc ρ => acc = (items.take i).filterMap g ∧ wipeE ρ tg.vars = wipeE ρ1 tg.vars) ⟨by simp, rfl⟩ (fun i d acc ρ hd ⟨ha, hw⟩ => ?_) fun acc ρ ⟨ha, hw⟩ => ?_⟩
  · have hlt : i < items.length := (List.getElem?_eq_some_iff.mp hd).1
    have st := step d (List.mem_of_getElem? hd)
    have e : Wp (turnEv cx elt tg c d ρ) (fun o ρ => o = g d ∧ wipeE ρ tg.vars = wipeE ρ1 tg.vars) := by
      rw [q_turn, hw]
      cases hp : Tg.put tg d (wipeE ρ1 tg.vars) with
      | none => rw [hp] at st; exact st
      | some ρ2 =>
        rw [hp] at st
        refine Wp.mono (show Wp (condEv cx c ρ2) _ from st) fun k ρ3 h => ?_
        cases k with
        | true => exact Wp.mono h fun r ρ4 h => Wp.mono h fun x ρ5 h => ⟨h.1.symm, h.2⟩
        | false =>
          rw [wpI_false] at h ⊢
          exact ⟨h.1.symm, h.2⟩
    refine Wp.mono e fun o ρ' ⟨ho, hw'⟩ => ?_
    have ht : (items.take (i + 1)).filterMap g = (items.take i).filterMap g ++ (g d).toList := by
      rw [List.take_add_one, hd, List.filterMap_append]
      simp only [Option.toList, List.filterMap_cons, List.filterMap_nil]
      cases g d <;> rfl
    subst ho
    cases hg : g d with
    | none =>
      rw [hg] at ht
      exact ⟨by rw [ht, ha]; simp, hw'⟩
    | some x =>
      rw [hg] at ht
      refine ⟨?_, by rw [ht, ha]; simp, hw'⟩
      rw [ha]
      have h1 := List.length_filterMap_le g (items.take i)
      rw [List.length_take] at h1
      have h2 : items.length ≤ 16777216 := hl
      show _ < 16777216
      omega
  · rw [back_same hw hv, ha, List.take_length]
    exact q
end MI
namespace MI
open PySem
/-! ### the operations at known kinds -/
@[simp] theorem wpO_gd {α : Type} (b : Bool) (a : α) (Q : α → Prop) : wpO (gd b a) Q = (b = true ∧ Q a) := by cases b <;> simp [gd, wpO]
@[simp] theorem wpO_map {α β : Type} (o : Option α) (f : α → β) (Q : β → Prop) : wpO (o.map f) Q = wpO o fun a => Q (f a) := by cases o <;> rfl
@[simp] theorem bind_gd {α β : Type} (b : Bool) (a : α) (f : α → Option β) : (gd b a).bind f = if b = true then f a else none := by cases b <;> rfl
@[simp] theorem wpO_bind {α β : Type} (o : Option α) (f : α → Option β) (Q : β → Prop) : wpO (o.bind f) Q = wpO o fun a => wpO (f a) Q := by cases o <;> rfl
@[simp] theorem wpI_ff (b : Bool) (P : Prop) : wpI b P False = (b = true ∧ P) := by cases b <;> simp [wpI]
theorem wpI_of {b : Bool} {P Q : Prop} (h1 : b = true → P) (h2 : b = false → Q) : wpI b P Q := by cases b <;> simp_all [wpI]
@[simp] theorem add_i (a b : Int) : opBin .add (.int a) (.int b) = some (.val (.int (a + b))) := rfl
@[simp] theorem add_l (a b : List D) : opBin .add (.list a) (.list b) = gd (decide (a.length + b.length ≤ Lim)) (.new (a ++ b)) := rfl
@[simp] theorem add_t (a b : List D) : opBin .add (.tuple a) (.tuple b) = gd (decide (a.length + b.length ≤ Lim)) (.val (.tuple (a ++ b))) := rfl
@[simp] theorem sub_i (a b : Int) : opBin .sub (.int a) (.int b) = some (.val (.int (a - b))) := rfl
@[simp] theorem mul_i (a b : Int) : opBin .mul (.int a) (.int b) = gd (decide (a.natAbs < 2 ^ 64) || decide (b.natAbs < 2 ^ 64)) (.val (.int (a * b))) := rfl
@[simp] theorem fdiv_i (a b : Int) : opBin .fdiv (.int a) (.int b) = gd (decide (0 < b) && decide (b < 1000000000000000000000000000000000000000000000000000000000000)) (.val (.int (a / b))) := by
  show (gd _ _).map _ = _
  generalize (decide (0 < b) && decide (b < 1000000000000000000000000000000000000000000000000000000000000)) = c
  cases c <;> rfl
@[simp] theorem mod_i (a b : Int) : opBin .mod (.int a) (.int b) = gd (decide (0 < b)) (.val (.int (a % b))) := by
  show (gd _ _).map _ = _
  generalize decide (0 < b) = c
  cases c <;> rfl
@[simp] theorem pow_i (a b : Int) : opBin .pow (.int a) (.int b) = gd (decide (0 ≤ b) && decide (b ≤ 1000000) && decide (a.natAbs < 2 ^ 64)) (.val (.int (a ^ b.toNat))) := by
  show (gd _ _).map _ = _
  generalize (decide (0 ≤ b) && decide (b ≤ 1000000) && decide (a.natAbs < 2 ^ 64)) = c
  cases c <;> rfl
@[simp] theorem lt_i (a b : Int) : opCmp .lt (.int a) (.int b) = some (decide (a < b)) := rfl
@[simp] theorem le_i (a b : Int) : opCmp .le (.int a) (.int b) = some (decide (a ≤ b)) := rfl
@[simp] theorem gt_i (a b : Int) : opCmp .gt (.int a) (.int b) = some (decide (b < a)) := rfl
@[simp] theorem ge_i (a b : Int) : opCmp .ge (.int a) (.int b) = some (decide (b ≤ a)) := rfl
@[simp] theorem isN_i (a : D) : opCmp .isN a .none = some (isNone a) := rfl
@[simp] theorem notN_i (a : D) : opCmp .notN a .none = some (!isNone a) := rfl
@[simp] theorem eq_i (a b : Int) : opCmp .eq (.int a) (.int b) = some (decide (a = b)) := by
  show some (PyData.eqv (.int a) (.int b)) = _
  simp only [PyData.eqv]
  rfl
@[simp] theorem ne_i (a b : Int) : opCmp .ne (.int a) (.int b) = some (!decide (a = b)) := by
  show (opCmp .eq (.int a) (.int b)).map not = _
  rw [eq_i]
  rfl
@[simp] theorem eq_lnil (xs : List D) : opCmp .eq (.list xs) (.list []) = some xs.isEmpty := by
  cases xs with
  | nil => rfl
  | cons x xs => rfl
@[simp] theorem ne_lnil (xs : List D) : opCmp .ne (.list xs) (.list []) = some (!xs.isEmpty) := by
  show (opCmp .eq (.list xs) (.list [])).map not = _
  rw [eq_lnil]
  rfl
@[simp] theorem idx_l (xs : List D) (i : Int) : opIdx (.list xs) (.int i) = (atD xs i).map R.val := rfl
@[simp] theorem idx_t (xs : List D) (i : Int) : opIdx (.tuple xs) (.int i) = (atD xs i).map R.val := rfl
theorem at_lt {xs : List D} {i : Int} {d : D} (h0 : 0 ≤ i) (h1 : i < xs.length) (h : xs[i.toNat]? = some d) : atD xs i = some d := by
  unfold atD ixOf
  rw [if_pos h0, if_pos h1]
  exact h
@[simp] theorem at0 (a : D) (xs : List D) : atD (a :: xs) 0 = some a := at_lt (by decide) (by simp only [List.length_cons]; omega) rfl
@[simp] theorem at1 (a b : D) (xs : List D) : atD (a :: b :: xs) 1 = some b := at_lt (by decide) (by simp only [List.length_cons]; omega) rfl
@[simp] theorem at2 (a b c : D) (xs : List D) : atD (a :: b :: c :: xs) 2 = some c := at_lt (by decide) (by simp only [List.length_cons]; omega) rfl
@[simp] theorem at3 (a b c d : D) (xs : List D) : atD (a :: b :: c :: d :: xs) 3 = some d := at_lt (by decide) (by simp only [List.length_cons]; omega) rfl
theorem at_ints {cells : List Int} {i : Int} (h0 : 0 ≤ i) (h1 : i < cells.length) : ∃ c, atD (cells.map .int) i = some (.int c) := by
  have h2 : i.toNat < cells.length := by omega
  exact ⟨cells[i.toNat], at_lt h0 (by simpa using h1) (by simp [h2])⟩
@[simp] theorem len_l (xs : List D) : opB1 .len (.list xs) = some (.val (.int xs.length)) := rfl
@[simp] theorem len_t (xs : List D) : opB1 .len (.tuple xs) = some (.val (.int xs.length)) := rfl
@[simp] theorem abs_i (i : Int) : opB1 .abs (.int i) = some (.val (.int (if i < 0 then -i else i))) := rfl
@[simp] theorem int_i (i : Int) : opB1 .int (.int i) = some (.val (.int i)) := rfl
@[simp] theorem int_b (i : Bool) : opB1 .int (.bool i) = some (.val (.int (if i then 1 else 0))) := rfl
@[simp] theorem list_l (xs : List D) : opB1 .list (.list xs) = some (.new xs) := rfl
@[simp] theorem list_t (xs : List D) : opB1 .list (.tuple xs) = some (.new xs) := rfl
@[simp] theorem tuple_l (xs : List D) : opB1 .tuple (.list xs) = some (.val (.tuple xs)) := rfl
@[simp] theorem tuple_t (xs : List D) : opB1 .tuple (.tuple xs) = some (.val (.tuple xs)) := rfl
@[simp] theorem repr_d (d : D) : opB1 .repr d = reprD d := rfl
@[simp] theorem min_ii (a b : Int) : opB2 .min (.int a) (.int b) = some (.val (.int (if b < a then b else a))) := rfl
@[simp] theorem max_ii (a b : Int) : opB2 .max (.int a) (.int b) = some (.val (.int (if b > a then b else a))) := rfl
@[simp] theorem sl_l (xs : List D) (lo hi : Option Int) : opSl (.list xs) lo hi = some (.new (cutL xs lo hi)) := rfl
@[simp] theorem sl_t (xs : List D) (lo hi : Option Int) : opSl (.tuple xs) lo hi = some (.val (.tuple (cutL xs lo hi))) := rfl
@[simp] theorem rev_l (xs : List D) : opRev (.list xs) = some (.new xs.reverse) := rfl
@[simp] theorem rev_t (xs : List D) : opRev (.tuple xs) = some (.val (.tuple xs.reverse)) := rfl
@[simp] theorem app_l (xs : List D) (d : D) : opMu .append xs [d] = gd (decide (xs.length < Lim)) (.none, xs ++ [d]) := rfl
@[simp] theorem rng_1 (j : Int) : rngOf [.int j] = gd (small62 j) (rngD 0 j.toNat 1) := rfl
@[simp] theorem endOf_ret (P : M → List M → Prop) (ms : List M) (m : M) (ρ : Env) : endOf P ms (.ret m) ρ = wpO (finOf ρ ms 0) (P m) := by
  show (∃ fin, _ ∧ _) = _
  cases finOf ρ ms 0 <;> simp [wpO]
@[simp] theorem endOf_next (P : M → List M → Prop) (ms : List M) (ρ : Env) : endOf P ms .next ρ = wpO (finOf ρ ms 0) (P (.sh .none)) := by
  show (∃ fin, _ ∧ _) = _
  cases finOf ρ ms 0 <;> simp [wpO]
@[simp] theorem fin_nil (ρ : Env) (n : Nat) : finOf ρ [] n = some [] := rfl
@[simp] theorem fin_sh (ρ : Env) (d : D) (ms : List M) (n : Nat) : finOf ρ (.sh d :: ms) n = (finOf ρ ms (n + 1)).map (.sh d :: ·) := rfl
@[simp] theorem fin_sc (ρ : Env) (d : List Int) (ms : List M) (n : Nat) : finOf ρ (.sc d :: ms) n = (finOf ρ ms (n + 1)).map (.sc d :: ·) := rfl
@[simp] theorem fin_ol (ρ : Env) (p : Bool) (d : List D) (ms : List M) (n : Nat) : finOf ρ (.ol p d :: ms) n = ((ρ.get n).bind fun m' => gd (m'.pinned) m').bind fun x => (finOf ρ ms (n + 1)).map (x :: ·) := rfl
@[simp] theorem ix3_0 : ixOf 3 0 = some 0 := rfl
@[simp] theorem ix3_1 : ixOf 3 1 = some 1 := rfl
@[simp] theorem ix3_2 : ixOf 3 2 = some 2 := rfl
end MI
namespace MI
open PySem
def f_law_draw : Fd := ⟨2, 7, [.ite (.cmp .gt (.idx (.var 0) (.int 2)) (.int 0)) [.asg 5 (.bin .mod (.idx (.var 0) (.int 2)) (.var 1)), .setI 0 (.int 2) (.bin .fdiv (.idx (.var 0) (.int 2)) (.var 1)), .ret (.var 5)] [], .asg 2 (.idx (.var 0) (.int 1)), .setI 0 (.int 1) (.bin .add (.var 2) (.int 1)), .asg 3 (.bin .add (.bin .mul (.int 3571) (.var 2)) (.int 307)), .ite (.cmp .ne (.idx (.var 0) (.int 0)) (.lst [])) [.asg 3 (.idx (.idx (.var 0) (.int 0)) (.bin .mod (.var 2) (.bi1 .len (.idx (.var 0) (.int 0)))))] [], .ite (.and (.cmp .lt (.var 2) (.bi1 .len (.idx (.var 0) (.int 0)))) (.cmp .ge (.bi1 .abs (.var 3)) (.bin .pow (.int 10) (.int 18)))) [.asg 6 (.bin .add (.bin .mul (.int 2) (.bi1 .abs (.var 3))) (.bi1 .int (.cmp .lt (.var 3) (.int 0)))), .setI 0 (.int 2) (.bin .fdiv (.var 6) (.var 1)), .ret (.bin .mod (.var 6) (.var 1))] [], .asg 4 (.bin .mod (.bin .pow (.bin .add (.bin .add (.bin .mod (.var 3) (.int 2147483543)) (.bin .mul (.int 60013) (.var 2))) (.int 151)) (.int 5)) (.int 2147483647)), .asg 4 (.bin .mod (.bin .pow (.bin .add (.bin .add (.bin .mul (.var 4) (.bin .add (.var 2) (.int 20021))) (.bin .mul (.bin .mul (.int 71011) (.var 2)) (.var 2))) (.int 29)) (.int 3)) (.int 2147483579)), .ret (.bin .mod (.bin .fdiv (.var 4) (.int 32)) (.var 1))]⟩
/-- a pen: its cells, how often it was asked, what is left of a great number -/
abbrev pen (cells : List Int) (at_ great : Int) : List D := [.list (cells.map .int), .int at_, .int great]
def DrawP (cells : List Int) (at_ many : Int) (m : M) (fin : List M) : Prop := ∃ v at2 g2, m = .sh (.int v) ∧ 0 ≤ v ∧ v < many ∧ at_ ≤ at2 ∧ at2 ≤ at_ + 1 ∧ 0 ≤ g2 ∧ fin = [.ol true (pen cells at2 g2), .sh (.int many)]
theorem draw_spec {prog : List Fd} {fuel k f : Nat} (hf : prog[f]? = some f_law_draw) (cells : List Int) {at_ great many : Int} (h1 : 0 < many) (h2 : many < 1000000000000000000000000000000000000000000000000000000000000) (h3 : 0 ≤ at_) (h4 : at_ < 1000000) (h5 : 0 ≤ great) :
    Ret (run prog fuel (k + 1) f [.ol true (pen cells at_ great), .sh (.int many)]) (DrawP cells at_ many) := by
  refine ret_run hf rfl (by decide) rfl ?_
  have em : ∀ x : Int, 0 ≤ x % many ∧ x % many < many := fun x => ⟨Int.emod_nonneg _ (by omega), Int.emod_lt_of_pos _ h1⟩
  have small : ∀ c : Int, (c % 2147483543 + 60013 * at_ + 151).natAbs < 18446744073709551616 := fun c => by omega
  have mid : ∀ x : Int, 0 ≤ x % 2147483647 ∧ x % 2147483647 < 2147483647 := fun x => by omega
  have last : ∀ x : Int, (x % 2147483647 * (at_ + 20021) + 71011 * at_ * at_ + 29).natAbs < 18446744073709551616 := fun x => by
    obtain ⟨m1, m2⟩ := mid x
    have b1 : x % 2147483647 * (at_ + 20021) ≤ 2147483647 * 1020021 := Int.mul_le_mul (by omega) (by omega) (by omega) (by omega)
    have b0 : 0 ≤ x % 2147483647 * (at_ + 20021) := Int.mul_nonneg m1 (by omega)
    have b2 : 71011 * at_ * at_ ≤ 71011 * 1000000 * 1000000 := Int.mul_le_mul (by omega) (by omega) (by omega) (by omega)
    have b3 : 0 ≤ 71011 * at_ * at_ := Int.mul_nonneg (by omega) h3
    omega
  have done : ∀ (x g2 : Int), 0 ≤ g2 → DrawP cells at_ many (M.sh (.int (x % many))) [.ol true [.list (cells.map .int), .int (at_ + 1), .int g2], .sh (.int many)] := fun x g2 h => ⟨x % many, at_ + 1, g2, rfl, (em x).1, (em x).2, by omega, by omega, h, rfl⟩
  have tail : ∀ (c : Int) (P : Prop), P → ((c % 2147483543 + 60013 * at_ + 151).natAbs < 18446744073709551616 ∧ (((c % 2147483543 + 60013 * at_ + 151) ^ 5 % 2147483647).natAbs < 18446744073709551616 ∨ (at_ + 20021).natAbs < 18446744073709551616) ∧ ((71011 * at_).natAbs < 18446744073709551616 ∨ at_.natAbs < 18446744073709551616) ∧
      ((c % 2147483543 + 60013 * at_ + 151) ^ 5 % 2147483647 * (at_ + 20021) + 71011 * at_ * at_ + 29).natAbs < 18446744073709551616 ∧ P) := fun c P p => ⟨small c, .inr (by omega), .inr (by omega), last _, p⟩
  simp [f_law_draw, h1, h2]
  by_cases hg : 0 < great
  · simp [hg]
    exact ⟨great % many, at_, great / many, rfl, (em _).1, (em _).2, by omega, by omega, Int.ediv_nonneg h5 (by omega), rfl⟩
  · simp [hg]
    have dv : ∀ x : Int, 0 ≤ x → 0 ≤ x / many := fun x h => Int.ediv_nonneg h (by omega)
    cases cells with
    | nil =>
      simp
      refine wpI_of (fun h => ?_) fun _ => tail _ _ (done _ _ h5)
      simp at h
      omega
    | cons c0 cs =>
      obtain ⟨c, hc⟩ := at_ints (cells := c0 :: cs) (i := at_ % ((c0 :: cs).length : Int)) (Int.emod_nonneg _ (by simp; omega)) (Int.emod_lt_of_pos _ (by simp only [List.length_cons]; omega))
      simp at hc
      simp [hc]
      refine wpI_of (fun _ => wpI_of (fun _ => ⟨⟨h1, h2⟩, h1, done _ _ (dv _ ?_)⟩) fun _ => tail _ _ ⟨h1, done _ _ h5⟩) fun _ => tail _ _ ⟨h1, done _ _ h5⟩
      split <;> omega
end MI
namespace MI
open PySem
/-! ### sizes of texts -/
mutual
def gdD : D → Bool
  | .int i => decide (i.natAbs < 10 ^ 51)
  | .str x => decide ((reprText x).length ≤ 43)
  | .list xs => gdDs xs
  | .tuple xs => gdDs xs
  | .dict kvs => kvs.isEmpty
  | _ => true
def gdDs : List D → Bool
  | [] => true
  | x :: xs => gdD x && gdDs xs
def cnt : D → Nat
  | .list xs => 1 + cnts xs
  | .tuple xs => 1 + cnts xs
  | _ => 1
def cnts : List D → Nat
  | [] => 0
  | x :: xs => cnt x + cnts xs
end
theorem join_len (ts : List Str) : (Str.join ", " ts).length ≤ piled ts := by
  by_cases h : ts = []
  · subst h; exact Nat.zero_le _
  · have := join_length_add ts h
    omega
theorem textFrom_le : ∀ (ts : List Str) (k : Nat) (acc : Str), (textFrom k acc ts).length ≤ acc.length + piled ts
  | [], k, acc => by show acc.length ≤ _; omega
  | t :: ts, k, acc => by
    have ih := textFrom_le ts (k + 1) (acc ++ (if k > 0 then ", " else "" : String) ++ t)
    rw [piled_cons]
    show (textFrom (k + 1) _ ts).length ≤ _
    have e : (acc ++ (if k > 0 then ", " else "" : String) ++ t : Str).length ≤ acc.length + 2 + t.length := by
      rw [strLen_append, strLen_append]
      have : (Str.ofString (if k > 0 then ", " else "")).length ≤ 2 := by split <;> decide
      omega
    omega
mutual
theorem shown_le : ∀ d : D, gdD d = true → d.shown.length + 2 ≤ 55 * cnt d ∧ d.showable = true
  | .none, _ => by simp only [PyData.shown, cnt, PyData.showable]; exact ⟨by decide, trivial⟩
  | .bool b, _ => by
    simp only [PyData.shown, cnt, PyData.showable]
    cases b <;> exact ⟨by decide, trivial⟩
  | .int i, h => by
    have h' : i.natAbs < 10 ^ 51 := by simpa only [gdD, decide_eq_true_eq] using h
    have e := int_text_length_le10 (a := i) (k := 51) (by decide) h'
    simp only [PyData.shown, cnt, PyData.showable, decide_eq_true_eq]
    refine ⟨?_, ?_⟩
    · have e2 : (Str.ofString (toString i)).length = (toString i).length := ofString_length _
      show (Str.ofString (toString i)).length + 2 ≤ _
      omega
    · by_cases hz : i.natAbs = 0
      · rw [hz]; decide
      · have : i.natAbs.log2 < 170 := (Nat.log2_lt hz).mpr (Nat.lt_of_lt_of_le h' (by decide))
        omega
  | .str x, h => by
    have h' : (reprText x).length ≤ 43 := by simpa only [gdD, decide_eq_true_eq] using h
    simp only [PyData.shown, cnt, PyData.showable]
    exact ⟨by omega, trivial⟩
  | .list xs, h => by
    obtain ⟨h1, h2⟩ := showns_le xs (by simpa only [gdD] using h)
    simp only [PyData.shown, cnt, PyData.showable]
    refine ⟨?_, h2⟩
    have e := textFrom_le (PyData.shownAll xs) 0 "["
    unfold listText
    rw [strLen_append]
    have e1 : (Str.ofString "[").length = 1 := rfl
    have e2 : (Str.ofString "]").length = 1 := rfl
    omega
  | .tuple xs, h => by
    obtain ⟨h1, h2⟩ := showns_le xs (by simpa only [gdD] using h)
    simp only [PyData.shown, cnt, PyData.showable]
    refine ⟨?_, h2⟩
    have e := join_len (PyData.shownAll xs)
    unfold tupleText
    rw [strLen_append, strLen_append]
    have e1 : (Str.ofString "(").length = 1 := rfl
    have e2 : (Str.ofString (if (PyData.shownAll xs).length == 1 then ",)" else ")")).length ≤ 2 := by split <;> decide
    omega
  | .dict kvs, h => by
    have : kvs = [] := by simpa [gdD] using h
    subst this
    simp only [PyData.shown, PyData.shownKv, cnt, PyData.showable, PyData.showableKv]
    exact ⟨by decide, trivial⟩
theorem showns_le : ∀ xs : List D, gdDs xs = true → piled (PyData.shownAll xs) ≤ 55 * cnts xs ∧ PyData.showableAll xs = true
  | [], _ => ⟨Nat.le_refl _, by simp [PyData.showableAll]⟩
  | x :: xs, h => by
    have h' : gdD x = true ∧ gdDs xs = true := by simpa [gdDs] using h
    obtain ⟨a1, a2⟩ := shown_le x h'.1
    obtain ⟨b1, b2⟩ := showns_le xs h'.2
    simp only [PyData.shownAll, cnts, PyData.showableAll, piled_cons]
    exact ⟨by omega, by simp [a2, b2]⟩
end
/-- a value that the laws show: small, not deep -/
structure Sm (c : Nat) (d : D) : Prop where
  gd : gdD d = true
  cn : cnt d ≤ c
  dp : d.depth ≤ 8
theorem repr_of {a b : D} {c : Nat} (ha : Sm c a) (hb : Sm c b) (hc : c ≤ 100000) (hp : (a.plain = true ∧ b.plain = true) ∨ (noList a = true ∧ noList b = true)) : opB1 .repr (.tuple [a, b]) = some (.val (.str (PyData.tuple [a, b]).shown)) := by
  show reprD _ = _
  unfold reprD
  have h : okRepr (.tuple [a, b]) = true := by
    have g : gdD (.tuple [a, b]) = true := by simp [gdD, gdDs, ha.gd, hb.gd]
    obtain ⟨s1, s2⟩ := shown_le _ g
    have k : cnt (.tuple [a, b]) ≤ 200001 := by
      have h1 := ha.cn
      have h2 := hb.cn
      simp only [cnt, cnts]
      omega
    unfold okRepr
    simp only [Bool.and_eq_true, decide_eq_true_eq, Bool.or_eq_true]
    refine ⟨⟨⟨s2, ?_⟩, ?_⟩, ?_⟩
    · show _ ≤ 16777216
      omega
    · have h1 := ha.dp
      have h2 := hb.dp
      simp only [PyData.depth, PyData.depthAll]
      omega
    · rcases hp with ⟨p, q⟩ | ⟨p, q⟩
      · exact .inl (by simp [PyData.plain, PyData.plainAll, p, q])
      · exact .inr (by simp [noList, noLists, p, q])
  rw [h]
  rfl
theorem cnts_append (a b : List D) : cnts (a ++ b) = cnts a + cnts b := by
  induction a with
  | nil => simp [cnts]
  | cons x xs ih => simp [cnts, ih]; omega
theorem gdDs_append (a b : List D) : gdDs (a ++ b) = (gdDs a && gdDs b) := by
  induction a with
  | nil => simp [gdDs]
  | cons x xs ih => simp [gdDs, ih, Bool.and_assoc]
/-! ### calls that draw -/
def PenQ (cells : List Int) (at_ n : Int) (P : M → Prop) (rest : List M) (m : M) (fin : List M) : Prop := ∃ at2 g2, fin = .ol true (pen cells at2 g2) :: rest ∧ at_ ≤ at2 ∧ at2 ≤ at_ + n ∧ 0 ≤ g2 ∧ P m
@[simp] theorem own_ol (p : Bool) (d : List D) : M.isOwn (.ol p d) = true := rfl
@[simp] theorem own_sh (d : D) : M.isOwn (.sh d) = false := rfl
@[simp] theorem res_sh (d : D) : M.res (.sh d) = .val d := rfl
@[simp] theorem res_ol (p : Bool) (d : List D) : M.res (.ol p d) = .new d := rfl
theorem call_pen {cx : Cxt} {f j : Nat} {ρ : Env} {p : Bool} {cells : List Int} {at_ g n : Int} {ds : List D} {src : List Arg} {P : M → Prop} {Q : R → Env → Prop} (hj : ρ.get j = some (.ol p (pen cells at_ g))) (hsrc : src = (List.range (ds.length + 1)).map .e) (hl : ds.length ≤ 4) (hr : Ret (cx.φ f (.ol true (pen cells at_ g) :: ds.map .sh)) (PenQ cells at_ n P (ds.map .sh)))
    (h : ∀ m at2 g2, P m → at_ ≤ at2 → at2 ≤ at_ + n → 0 ≤ g2 → Q m.res (ρ.set j (some (.ol p (pen cells at2 g2))))) : Wp (callR cx f (.own j :: ds.map .val) src ρ) Q := by
  have own : ((Env.get ρ j).map M.isOwn).getD false = true := by rw [hj]; rfl
  subst hsrc
  match ds, hl with
  | [], _ =>
    refine wp_call (ms := [.ol true (pen cells at_ g)]) ?_ ?_ (by simp [srcOk, List.range_succ]) hr ?_
    · simp [argsOf, R.arg, hj, List.range_succ]
    · simp [ownsOf, own, List.range_succ]
    · rintro m fin ⟨at2, g2, rfl, a1, a2, a3, pm⟩
      refine ⟨rfl, ?_⟩
      simp [ownsOf, own, List.range_succ, backOf, hj]
      exact h m at2 g2 pm a1 a2 a3
  | [d1], _ =>
    refine wp_call (ms := [.ol true (pen cells at_ g), .sh d1]) ?_ ?_ (by simp [srcOk, List.range_succ]) hr ?_
    · simp [argsOf, R.arg, hj, List.range_succ]
    · simp [ownsOf, own, List.range_succ]
    · rintro m fin ⟨at2, g2, rfl, a1, a2, a3, pm⟩
      refine ⟨rfl, ?_⟩
      simp [ownsOf, own, List.range_succ, backOf, hj]
      exact h m at2 g2 pm a1 a2 a3
  | [d1, d2], _ =>
    refine wp_call (ms := [.ol true (pen cells at_ g), .sh d1, .sh d2]) ?_ ?_ (by simp [srcOk, List.range_succ]) hr ?_
    · simp [argsOf, R.arg, hj, List.range_succ]
    · simp [ownsOf, own, List.range_succ]
    · rintro m fin ⟨at2, g2, rfl, a1, a2, a3, pm⟩
      refine ⟨rfl, ?_⟩
      simp [ownsOf, own, List.range_succ, backOf, hj]
      exact h m at2 g2 pm a1 a2 a3
  | [d1, d2, d3], _ =>
    refine wp_call (ms := [.ol true (pen cells at_ g), .sh d1, .sh d2, .sh d3]) ?_ ?_ (by simp [srcOk, List.range_succ]) hr ?_
    · simp [argsOf, R.arg, hj, List.range_succ]
    · simp [ownsOf, own, List.range_succ]
    · rintro m fin ⟨at2, g2, rfl, a1, a2, a3, pm⟩
      refine ⟨rfl, ?_⟩
      simp [ownsOf, own, List.range_succ, backOf, hj]
      exact h m at2 g2 pm a1 a2 a3
  | [d1, d2, d3, d4], _ =>
    refine wp_call (ms := [.ol true (pen cells at_ g), .sh d1, .sh d2, .sh d3, .sh d4]) ?_ ?_ (by simp [srcOk, List.range_succ]) hr ?_
    · simp [argsOf, R.arg, hj, List.range_succ]
    · simp [ownsOf, own, List.range_succ]
    · rintro m fin ⟨at2, g2, rfl, a1, a2, a3, pm⟩
      refine ⟨rfl, ?_⟩
      simp [ownsOf, own, List.range_succ, backOf, hj]
      exact h m at2 g2 pm a1 a2 a3
end MI
namespace MI
open PySem
/-! ### how small, how deep, of which kind (p: no dict; else no list) -/
structure An (p : Bool) (c k : Nat) (d : D) : Prop where
  gd : gdD d = true
  cn : cnt d ≤ c
  dp : d.depth ≤ k
  kd : if p then d.plain = true else noList d = true
structure Ans (p : Bool) (c k : Nat) (xs : List D) : Prop where
  gd : gdDs xs = true
  cn : cnts xs ≤ c
  dp : PyData.depthAll xs ≤ k
  kd : if p then PyData.plainAll xs = true else noLists xs = true
theorem An.mono {p : Bool} {c k c' k' : Nat} {d : D} (h : An p c k d) (h1 : c ≤ c') (h2 : k ≤ k') : An p c' k' d := ⟨h.gd, Nat.le_trans h.cn h1, Nat.le_trans h.dp h2, h.kd⟩
theorem Ans.mono {p : Bool} {c k c' k' : Nat} {d : List D} (h : Ans p c k d) (h1 : c ≤ c') (h2 : k ≤ k') : Ans p c' k' d := ⟨h.gd, Nat.le_trans h.cn h1, Nat.le_trans h.dp h2, h.kd⟩
theorem Ans.nil {p : Bool} : Ans p 0 0 [] := ⟨rfl, Nat.le_refl _, Nat.le_refl _, by cases p <;> rfl⟩
theorem Ans.cons {p : Bool} {c1 c2 k1 k2 : Nat} {x : D} {xs : List D} (h : An p c1 k1 x) (t : Ans p c2 k2 xs) : Ans p (c1 + c2) (max k1 k2) (x :: xs) := by
  refine ⟨by simp [gdDs, h.gd, t.gd], ?_, ?_, ?_⟩
  · simp only [cnts]
    have := h.cn
    have := t.cn
    omega
  · simp only [PyData.depthAll]
    have := h.dp
    have := t.dp
    omega
  · have a := h.kd
    have b := t.kd
    cases p
    · simp only [noLists] at *
      simp_all
    · simp only [PyData.plainAll] at *
      simp_all
theorem An.tup {p : Bool} {c k : Nat} {xs : List D} (h : Ans p c k xs) : An p (1 + c) (k + 1) (.tuple xs) := by
  refine ⟨by simp only [gdD]; exact h.gd, by simp only [cnt]; have := h.cn; omega, by simp only [PyData.depth]; have := h.dp; omega, ?_⟩
  have a := h.kd
  cases p
  · simp only [noList] at *; simp_all
  · simp only [PyData.plain] at *; simp_all
theorem An.lst {c k : Nat} {xs : List D} (h : Ans true c k xs) : An true (1 + c) (k + 1) (.list xs) := by
  refine ⟨by simp only [gdD]; exact h.gd, by simp only [cnt]; have := h.cn; omega, by simp only [PyData.depth]; have := h.dp; omega, ?_⟩
  have a := h.kd
  simp only [PyData.plain] at *; simp_all
theorem Ans.append {p : Bool} {c1 c2 k1 k2 : Nat} {xs ys : List D} (h : Ans p c1 k1 xs) (t : Ans p c2 k2 ys) : Ans p (c1 + c2) (max k1 k2) (xs ++ ys) := by
  refine ⟨by rw [gdDs_append, h.gd, t.gd]; rfl, by rw [cnts_append]; have := h.cn; have := t.cn; omega, ?_, ?_⟩
  · have e : ∀ xs : List D, PyData.depthAll (xs ++ ys) = max (PyData.depthAll xs) (PyData.depthAll ys) := by
      intro xs
      induction xs with
      | nil => simp [PyData.depthAll]
      | cons x xs ih => simp only [List.cons_append, PyData.depthAll, ih]; omega
    rw [e]
    have := h.dp
    have := t.dp
    omega
  · have a := h.kd
    have b := t.kd
    cases p
    · have e : ∀ xs : List D, noLists (xs ++ ys) = (noLists xs && noLists ys) := by
        intro xs
        induction xs with
        | nil => simp [noLists]
        | cons x xs ih => simp [noLists, ih, Bool.and_assoc]
      simp_all
    · have e : ∀ xs : List D, PyData.plainAll (xs ++ ys) = (PyData.plainAll xs && PyData.plainAll ys) := by
        intro xs
        induction xs with
        | nil => simp [PyData.plainAll]
        | cons x xs ih => simp [PyData.plainAll, ih, Bool.and_assoc]
      simp_all
/-- numbers below 100, and None -/
def Flat (xs : List D) : Prop := ∀ x ∈ xs, x = .none ∨ ∃ i : Int, x = .int i ∧ i.natAbs < 10000000000
theorem An.int (p : Bool) {i : Int} (h : i.natAbs < 10000000000) : An p 1 0 (.int i) := ⟨by simp only [gdD, decide_eq_true_eq]; exact Nat.lt_trans h (by decide), Nat.le_refl _, Nat.le_refl _, by cases p <;> rfl⟩
theorem An.non (p : Bool) : An p 1 0 .none := ⟨rfl, Nat.le_refl _, Nat.le_refl _, by cases p <;> rfl⟩
theorem Ans.flat (p : Bool) : ∀ {xs : List D}, Flat xs → Ans p xs.length 0 xs
  | [], _ => .nil
  | x :: xs, h => by
    have t := Ans.flat p (xs := xs) fun y hy => h y (List.mem_cons_of_mem _ hy)
    have a : An p 1 0 x := by
      rcases h x List.mem_cons_self with rfl | ⟨i, rfl, hi⟩
      · exact .non p
      · exact .int p hi
    exact (Ans.cons a t).mono (by simp; omega) (by omega)
theorem flat_sub {xs ys : List D} (h : Flat xs) (s : ∀ x ∈ ys, x ∈ xs) : Flat ys := fun x hx => h x (s x hx)
theorem Ans.set {p : Bool} {c k : Nat} {xs : List D} {x : D} (h : Flat xs) (a : An p c k x) (i : Nat) : Ans p (c + xs.length) k (xs.set i x) := by
  by_cases hi : i < xs.length
  · rw [List.set_eq_take_append_cons_drop, if_pos hi]
    have h1 := Ans.flat p (flat_sub h fun y hy => List.mem_of_mem_take hy : Flat (xs.take i))
    have h2 := Ans.flat p (flat_sub h fun y hy => List.mem_of_mem_drop hy : Flat (xs.drop (i + 1)))
    refine (h1.append (.cons a h2)).mono ?_ (by omega)
    rw [List.length_take, List.length_drop]
    omega
  · rw [List.set_eq_of_length_le (by omega)]
    exact (Ans.flat p h).mono (by omega) (by omega)
theorem repr_An {p : Bool} {a b : D} {c1 c2 k1 k2 : Nat} (ha : An p c1 k1 a) (hb : An p c2 k2 b) (h1 : c1 ≤ 100000) (h2 : c2 ≤ 100000) (h3 : k1 ≤ 8) (h4 : k2 ≤ 8) : opB1 .repr (.tuple [a, b]) = some (.val (.str (PyData.tuple [a, b]).shown)) :=
  repr_of (c := 100000) ⟨ha.gd, Nat.le_trans ha.cn h1, Nat.le_trans ha.dp h3⟩ ⟨hb.gd, Nat.le_trans hb.cn h2, Nat.le_trans hb.dp h4⟩ (Nat.le_refl _) (by
    have x := ha.kd
    have y := hb.kd
    cases p
    · exact .inr ⟨x, y⟩
    · exact .inl ⟨x, y⟩)
/-- .. of one value -/
theorem repr_one {p : Bool} {a : D} {c k : Nat} (h : An p c k a) (hc : c ≤ 300000) (hk : k ≤ 64) : reprD a = some (.val (.str a.shown)) := by
  unfold reprD
  have e : okRepr a = true := by
    obtain ⟨s1, s2⟩ := shown_le _ h.gd
    have h1 := h.cn
    have h2 := h.dp
    have h3 := h.kd
    unfold okRepr
    simp only [Bool.and_eq_true, decide_eq_true_eq, Bool.or_eq_true]
    refine ⟨⟨⟨s2, ?_⟩, ?_⟩, ?_⟩
    · show _ ≤ 16777216
      omega
    · omega
    · cases p
      · exact .inr h3
      · exact .inl h3
  rw [e]
  rfl
theorem cnt_pos : ∀ d : D, 1 ≤ cnt d := by
  intro d
  cases d <;> simp [cnt]
theorem cnts_len : ∀ xs : List D, xs.length ≤ cnts xs
  | [] => Nat.le_refl _
  | x :: xs => by
    have := cnts_len xs
    have := cnt_pos x
    simp only [cnts, List.length_cons]
    omega
theorem okEq_An {c k : Nat} {d : D} (h : An true c k d) (hk : k ≤ 64) : okEq d = true := by
  unfold okEq
  have a : d.plain = true := h.kd
  simp [a]
  exact Nat.le_trans h.dp hk
/-! ### cuts -/
theorem cut_take {xs : List D} {v : Int} (h0 : 0 ≤ v) (h1 : v ≤ xs.length) : cutL xs none (some v) = xs.take v.toNat := by
  unfold cutL slIx
  dsimp only
  rw [if_neg (by omega), Nat.min_eq_left (by omega)]
  simp
theorem cut_drop {xs : List D} {v : Int} (h0 : 0 ≤ v) (h1 : v ≤ xs.length) : cutL xs (some v) none = xs.drop v.toNat := by
  unfold cutL slIx
  dsimp only
  rw [if_neg (by omega), Nat.min_eq_left (by omega)]
  exact List.take_of_length_le (by rw [List.length_drop]; omega)
theorem mem_cut {xs : List D} {lo hi : Option Int} {x : D} (h : x ∈ cutL xs lo hi) : x ∈ xs := by
  unfold cutL at h
  exact List.mem_of_mem_drop (List.mem_of_mem_take h)
theorem cut_len (xs : List D) (lo hi : Option Int) : (cutL xs lo hi).length ≤ xs.length := by
  unfold cutL
  rw [List.length_take, List.length_drop]
  omega
theorem put_cut {xs : List D} {v : Int} {x : D} (h0 : 0 ≤ v) (h1 : v < xs.length) : cutL xs none (some v) ++ x :: cutL xs (some (v + 1)) none = xs.set v.toNat x := by
  rw [cut_take h0 (by omega), cut_drop (by omega) (by omega), List.set_eq_take_append_cons_drop, if_pos (by omega)]
  congr 3
  omega
theorem ne_tnil {xs : List D} (h : okEq (.tuple xs) = true) : opCmp .ne (.tuple xs) (.tuple []) = some (!xs.isEmpty) := by
  show (opEq _ _).map not = _
  unfold opEq
  rw [if_neg (by simp [lensDiffer]), h, show okEq (.tuple []) = true from rfl]
  cases xs with
  | nil => rfl
  | cons x xs => simp [gd, PyData.eqv, PyData.eqvAll]
/-- a call that keeps nothing and lends nothing -/
theorem call_sh {cx : Cxt} {f : Nat} {ρ : Env} {ds : List D} {d : D} {src : List Arg} {Q : R → Env → Prop} (hsrc : src = (List.range ds.length).map .e) (hl : ds.length ≤ 4) (hr : Ret (cx.φ f (ds.map .sh)) (fun m fin => m = .sh d ∧ fin = ds.map .sh)) (h : Q (.val d) ρ) : Wp (callR cx f (ds.map .val) src ρ) Q := by
  subst hsrc
  match ds, hl with
  | [], _ =>
    refine wp_call (ms := []) ?_ ?_ (by simp [srcOk, List.range_succ]) hr ?_
    · simp [argsOf, R.arg, List.range_succ]
    · simp [ownsOf, List.range_succ]
    · rintro m fin ⟨rfl, rfl⟩
      exact ⟨rfl, by simpa [ownsOf, List.range_succ, backOf] using h⟩
  | [d1], _ =>
    refine wp_call (ms := [.sh d1]) ?_ ?_ (by simp [srcOk, List.range_succ]) hr ?_
    · simp [argsOf, R.arg, List.range_succ]
    · simp [ownsOf, List.range_succ]
    · rintro m fin ⟨rfl, rfl⟩
      exact ⟨rfl, by simpa [ownsOf, List.range_succ, backOf] using h⟩
  | [d1, d2], _ =>
    refine wp_call (ms := [.sh d1, .sh d2]) ?_ ?_ (by simp [srcOk, List.range_succ]) hr ?_
    · simp [argsOf, R.arg, List.range_succ]
    · simp [ownsOf, List.range_succ]
    · rintro m fin ⟨rfl, rfl⟩
      exact ⟨rfl, by simpa [ownsOf, List.range_succ, backOf] using h⟩
  | [d1, d2, d3], _ =>
    refine wp_call (ms := [.sh d1, .sh d2, .sh d3]) ?_ ?_ (by simp [srcOk, List.range_succ]) hr ?_
    · simp [argsOf, R.arg, List.range_succ]
    · simp [ownsOf, List.range_succ]
    · rintro m fin ⟨rfl, rfl⟩
      exact ⟨rfl, by simpa [ownsOf, List.range_succ, backOf] using h⟩
  | [d1, d2, d3, d4], _ =>
    refine wp_call (ms := [.sh d1, .sh d2, .sh d3, .sh d4]) ?_ ?_ (by simp [srcOk, List.range_succ]) hr ?_
    · simp [argsOf, R.arg, List.range_succ]
    · simp [ownsOf, List.range_succ]
    · rintro m fin ⟨rfl, rfl⟩
      exact ⟨rfl, by simpa [ownsOf, List.range_succ, backOf] using h⟩
/-- .. two arguments, by their names, the other way round -/
theorem call_sw {cx : Cxt} {f : Nat} {ρ : Env} {d1 d2 : D} {d : D} {Q : R → Env → Prop} (hr : Ret (cx.φ f [.sh d2, .sh d1]) (fun m fin => m = .sh d ∧ fin = [.sh d2, .sh d1])) (h : Q (.val d) ρ) : Wp (callR cx f [.val d1, .val d2] [.e 1, .e 0] ρ) Q := by
  refine wp_call (ms := [.sh d2, .sh d1]) ?_ ?_ (by simp [srcOk]) hr ?_
  · simp [argsOf, R.arg]
  · simp [ownsOf]
  · rintro m fin ⟨rfl, rfl⟩
    exact ⟨rfl, by simpa [ownsOf, backOf] using h⟩
end MI
namespace MI
open PySem
/-! ### more steps -/
section
variable (cx : Cxt) (ρ : Env) (Q : R → Env → Prop)
@[simp ↓] theorem s_join (s : String) (a : Ex) : Wp (evE cx (.join s a) ρ) Q = Wp (evE cx a ρ) fun ra ρ => wpO ((ra.cont ρ).bind (joinD (Str.ofString s))) fun r => Q r ρ := by
  simp only [evE, s_bind, s_lift]
@[simp ↓] theorem s_sset (a : Ex) : Wp (evE cx (.sset a) ρ) Q = Wp (evE cx a ρ) fun ra ρ => wpO ((ra.cont ρ).bind ssetD) fun r => Q r ρ := by
  simp only [evE, s_bind, s_lift]
@[simp ↓] theorem s_lzip (a b : Ex) : Wp (evE cx (.lzip a b) ρ) Q = Wp (evE cx a ρ) fun r ρ => Wp (MI.frz r ρ) fun d ρ => Wp (evE cx b ρ) fun r ρ => Wp (MI.frz r ρ) fun e ρ => wpO (lzipD d e) fun r => Q r ρ := by
  simp only [evE, s_bind, s_lift]
@[simp ↓] theorem s_inr (neg : Bool) (a : Ex) (es : List Ex) : Wp (evE cx (.inr neg a es) ρ) Q = Wp (evE cx a ρ) fun ra ρ => Wp (evDs cx es ρ) fun ds ρ => wpO ((ra.cont ρ).bind fun x => inrD neg x ds) fun r => Q r ρ := by
  simp only [evE, s_bind, s_lift]
@[simp ↓] theorem s_lit (it : It) (t : Bool) : Wp (evE cx (.lit it t) ρ) Q = Wp (evI cx it ρ) fun items ρ => items.length ≤ Lim ∧ Q (if t then .val (.tuple items) else .new items) ρ := by
  simp only [evE, s_bind]
  congr 1
  funext items ρ
  by_cases h : items.length ≤ Lim
  · simp [h]
  · simp [h]; exact fun h => h
variable (Q : Bool → Env → Prop)
@[simp ↓] theorem t_inr (neg : Bool) (a : Ex) (es : List Ex) : Wp (evT cx (.inr neg a es) ρ) Q = Wp (evE cx (.inr neg a es) ρ) fun r ρ => wpO ((r.cont ρ).bind truth) fun b => Q b ρ := t_val cx ρ Q (by simp only [evT])
variable (Q : Fl → Env → Prop)
@[simp ↓] theorem q_par (i j : Nat) (a b : Ex) : Wp (evS cx (.par i j a b) ρ) Q = Wp (evE cx a ρ) fun ra ρ => Wp (R.still ra ρ) fun ra ρ => Wp (evE cx b ρ) fun rb ρ => Wp (R.still rb ρ) fun rb ρ => i ≠ j ∧ Wp (setR i ra ρ) fun _ ρ => Wp (setR j rb ρ) fun _ ρ => Q .next ρ := by
  simp only [evS, s_bind]
  congr 1; funext ra ρ
  congr 1; funext ra ρ
  congr 1; funext rb ρ
  congr 1; funext rb ρ
  by_cases h : i = j
  · simp [h]; exact fun h => h
  · simp [h]
end
section
variable (ρ : Env) (Q : R → Env → Prop)
@[simp ↓] theorem still_val (d : D) : Wp (R.still (.val d) ρ) Q = Q (.val d) ρ := rfl
@[simp ↓] theorem still_new (d : List D) : Wp (R.still (.new d) ρ) Q = Q (.new d) ρ := rfl
@[simp ↓] theorem still_own' (i : Nat) : Wp (R.still (.own i) ρ) Q = Wp (MI.frz (.own i) ρ) fun d ρ => Q (.val d) ρ := by
  show Wp ((MI.frz (.own i) ρ).bind _) Q = _
  simp only [s_bind, s_ok]
variable (Q : Unit → Env → Prop)
@[simp ↓] theorem set_val (i : Nat) (d : D) : Wp (setR i (.val d) ρ) Q = (free ρ i = true ∧ Q () (ρ.set i (some (.sh d)))) := by
  unfold setR
  by_cases h : free ρ i = true
  · simp [h]
  · simp [h]; exact fun h => h
@[simp ↓] theorem set_new (i : Nat) (d : List D) : Wp (setR i (.new d) ρ) Q = (free ρ i = true ∧ Q () (ρ.set i (some (.ol false d)))) := by
  unfold setR
  by_cases h : free ρ i = true
  · simp [h]
  · simp [h]; exact fun h => h
end
@[simp] theorem isT_i (a b : Bool) : opCmp .isN (.bool a) (.bool b) = some (a == b) := rfl
@[simp] theorem notT_i (a b : Bool) : opCmp .notN (.bool a) (.bool b) = some (!(a == b)) := rfl
@[simp] theorem inr_1 (neg : Bool) (i n : Int) : inrD neg (.int i) [.int n] = some (.val (.bool (neg != (decide (0 ≤ i ∧ i < n))))) := rfl
@[simp] theorem inr_2 (neg : Bool) (i a b : Int) : inrD neg (.int i) [.int a, .int b] = some (.val (.bool (neg != (decide (a ≤ i ∧ i < b))))) := rfl
@[simp] theorem rng_2 (i j : Int) : rngOf [.int i, .int j] = gd (small62 i && small62 j) (rngD i (j - i).toNat 1) := rfl
@[simp] theorem lzip_t (xs ys : List D) : lzipD (.tuple xs) (.tuple ys) = some (.new (zipD xs ys)) := rfl
@[simp] theorem lim_val : (Lim : Nat) = 16777216 := rfl
theorem eq_ss (a b : Str) : opCmp .eq (.str a) (.str b) = some (a == b) := by
  show opEq _ _ = _
  unfold opEq
  rw [if_neg (by simp [lensDiffer])]
  show gd true (PyData.eqv (.str a) (.str b)) = _
  simp [gd, PyData.eqv]
theorem ne_ss' (a b : Str) : opCmp .ne (.str a) (.str b) = some (a != b) := by
  show (opCmp .eq (.str a) (.str b)).map not = _
  rw [eq_ss]
  rfl
theorem popAt_ok {xs : List D} {i : Int} (h0 : 0 ≤ i) (h1 : i < xs.length) (hl : xs.length ≤ 1000000) : ∃ y, opMu .popAt xs [.int i] = some (y, xs.eraseIdx i.toNat) ∧ y ∈ xs := by
  have hi : i.toNat < xs.length := by omega
  refine ⟨xs[i.toNat], ?_, List.getElem_mem hi⟩
  show ((gd (decide (i.natAbs < 2 ^ 62)) ()).bind fun _ => (ixOf xs.length i).bind fun k => (xs[k]?).map fun y => (y, xs.eraseIdx k)) = _
  have e : ixOf xs.length i = some i.toNat := by
    unfold ixOf
    rw [if_pos h0, if_pos h1]
  rw [e]
  have g : i.natAbs < 2 ^ 62 := Nat.lt_of_lt_of_le (show i.natAbs < 1000001 by omega) (by decide)
  rw [show decide (i.natAbs < 2 ^ 62) = true from decide_eq_true g]
  simp [gd, hi]
theorem ix_ok {n : Nat} {i : Int} (h0 : 0 ≤ i) (h1 : i < n) : ixOf n i = some i.toNat := by
  unfold ixOf
  rw [if_pos h0, if_pos h1]
theorem penq {cells : List Int} {at_ n at2 g2 : Int} {P : M → Prop} {rest : List M} {m : M} (a1 : at_ ≤ at2) (a2 : at2 ≤ at_ + n) (a3 : 0 ≤ g2) (p : P m) : PenQ cells at_ n P rest m (.ol true (pen cells at2 g2) :: rest) := ⟨at2, g2, rfl, a1, a2, a3, p⟩
theorem at4 {a b c d : D} {v : Int} (h0 : 0 ≤ v) (h1 : v < 4) : atD [a, b, c, d] v = some a ∨ atD [a, b, c, d] v = some b ∨ atD [a, b, c, d] v = some c ∨ atD [a, b, c, d] v = some d := by
  have : v = 0 ∨ v = 1 ∨ v = 2 ∨ v = 3 := by omega
  rcases this with rfl | rfl | rfl | rfl <;> simp
theorem at3' {a b c : D} {v : Int} (h0 : 0 ≤ v) (h1 : v < 3) : atD [a, b, c] v = some a ∨ atD [a, b, c] v = some b ∨ atD [a, b, c] v = some c := by
  have : v = 0 ∨ v = 1 ∨ v = 2 := by omega
  rcases this with rfl | rfl | rfl <;> simp
theorem at6 {P : D → Prop} {xs : List D} {v : Int} (h0 : 0 ≤ v) (h1 : v < xs.length) (h : ∀ x ∈ xs, P x) : ∃ d, atD xs v = some d ∧ P d := by
  have hl : v.toNat < xs.length := by omega
  exact ⟨xs[v.toNat], at_lt h0 h1 (by simp [hl]), h _ (List.getElem_mem hl)⟩
theorem small_of {i : Int} (h0 : 0 ≤ i) (h1 : i < 1000000) : small62 i = true := by
  have h : i.natAbs < 2 ^ 62 := Nat.lt_of_lt_of_le (show i.natAbs < 1000001 by omega) (by decide)
  exact decide_eq_true h
theorem at_mem {xs : List D} {v : Int} (h0 : 0 ≤ v) (h1 : v < xs.length) : ∃ d, atD xs v = some d ∧ d ∈ xs := at6 h0 h1 fun _ h => h
theorem wpI_two {b1 b2 : Bool} {P R : Prop} (hP : b1 = true → b2 = true → P) (hR : R) : wpI b1 (wpI b2 P R) R := by
  cases b1 <;> cases b2 <;> simp_all [wpI]
def AnyP (c k : Nat) (d : D) : Prop := ∃ p, An p c k d
theorem wpO_at {xs : List D} {v : Int} {Q : D → Prop} (h0 : 0 ≤ v) (h1 : v < xs.length) (h : ∀ x ∈ xs, Q x) : wpO (atD xs v) Q := by
  obtain ⟨d, e, hd⟩ := at_mem h0 h1
  rw [e]
  exact h d hd
theorem Ans_all {p : Bool} {c k : Nat} : ∀ {xs : List D}, (∀ x ∈ xs, An p c k x) → Ans p (c * xs.length) k xs
  | [], _ => Ans.nil.mono (by simp) (by omega)
  | x :: xs, h => (Ans.cons (h x List.mem_cons_self) (Ans_all fun y hy => h y (List.mem_cons_of_mem _ hy))).mono (by simp [Nat.mul_add]; omega) (by omega)
theorem An_tup {p : Bool} {c k n : Nat} {xs : List D} (h : ∀ x ∈ xs, An p c k x) (hn : xs.length ≤ n) : An p (1 + c * n) (k + 1) (.tuple xs) :=
  (An.tup (Ans_all h)).mono (Nat.add_le_add_left (Nat.mul_le_mul_left c hn) 1) (Nat.le_refl _)
theorem An_lst {c k n : Nat} {xs : List D} (h : ∀ x ∈ xs, An true c k x) (hn : xs.length ≤ n) : An true (1 + c * n) (k + 1) (.list xs) :=
  (An.lst (Ans_all h)).mono (Nat.add_le_add_left (Nat.mul_le_mul_left c hn) 1) (Nat.le_refl _)
theorem An_two {p : Bool} {c1 c2 k1 k2 : Nat} {x y : D} (h1 : An p c1 k1 x) (h2 : An p c2 k2 y) : An p (2 + c1 + c2) (max k1 k2 + 1) (.tuple [x, y]) := (An.tup (.cons h1 (.cons h2 .nil))).mono (by omega) (by omega)
theorem An_three {p : Bool} {c1 c2 c3 k1 k2 k3 : Nat} {x y z : D} (h1 : An p c1 k1 x) (h2 : An p c2 k2 y) (h3 : An p c3 k3 z) : An p (2 + c1 + c2 + c3) (max k1 (max k2 k3) + 1) (.tuple [x, y, z]) := (An.tup (.cons h1 (.cons h2 (.cons h3 .nil)))).mono (by omega) (by omega)
theorem flat_An {p : Bool} {xs : List D} (h : Flat xs) : ∀ x ∈ xs, An p 1 0 x := fun x hx => by
  rcases h x hx with rfl | ⟨i, rfl, hi⟩
  · exact .non p
  · exact .int p hi
theorem eq_tnil {xs : List D} (h : okEq (.tuple xs) = true) : opCmp .eq (.tuple xs) (.tuple []) = some xs.isEmpty := by
  show opEq _ _ = _
  unfold opEq
  rw [if_neg (by simp [lensDiffer]), h, show okEq (.tuple []) = true from rfl]
  cases xs with
  | nil => rfl
  | cons x xs => simp [gd, PyData.eqv, PyData.eqvAll]
theorem wpI_or {b1 b2 : Bool} {P R : Prop} (hP : P) (hR : b1 = false → b2 = false → R) : wpI b1 P (wpI b2 P R) := by
  cases b1 <;> cases b2 <;> simp_all [wpI]
theorem set_all {P : D → Prop} {xs : List D} {i : Nat} {y : D} (h : ∀ x ∈ xs, P x) (hy : P y) : ∀ x ∈ xs.set i y, P x := fun x hx => by
  rcases List.mem_or_eq_of_mem_set hx with h1 | rfl
  · exact h x h1
  · exact hy
theorem cut_all {P : D → Prop} {xs : List D} {lo hi : Option Int} (h : ∀ x ∈ xs, P x) : ∀ x ∈ cutL xs lo hi, P x := fun x hx => h x (mem_cut hx)
theorem app_all {P : D → Prop} {xs ys : List D} (h : ∀ x ∈ xs, P x) (h2 : ∀ x ∈ ys, P x) : ∀ x ∈ xs ++ ys, P x := fun x hx => by
  rcases List.mem_append.mp hx with h1 | h1
  · exact h x h1
  · exact h2 x h1
theorem all_mono {p : Bool} {c k c' k' : Nat} {xs : List D} (h : ∀ x ∈ xs, An p c k x) (h1 : c ≤ c') (h2 : k ≤ k') : ∀ x ∈ xs, An p c' k' x := fun x hx => (h x hx).mono h1 h2
@[simp] theorem sl_63 (ns : List Int) : cutL (ns.map PyData.int) none (some 63) = (ns.take 63).map PyData.int := by
  unfold cutL slIx
  dsimp only
  rw [if_neg (by decide), List.drop_zero, List.length_map, Nat.sub_zero, List.map_take]
  by_cases h : ns.length ≤ 63
  · rw [List.take_of_length_le (by simp; omega), List.take_of_length_le (by simpa using h)]
  · rw [Nat.min_eq_left (show (63 : Int).toNat ≤ ns.length by simp; omega)]
    rfl
@[simp] theorem ne_b (a b : Bool) : opCmp .ne (.bool a) (.bool b) = some (a != b) := by cases a <;> cases b <;> rfl
@[simp] theorem ne_ss (a : Str) : opCmp .ne (.str a) (.str a) = some false := by
  show (opEq (.str a) (.str a)).map not = _
  have e : opEq (.str a) (.str a) = some true := by
    unfold opEq
    rw [if_neg (by simp [lensDiffer])]
    show gd true (PyData.eqv (.str a) (.str a)) = _
    simp [gd, PyData.eqv]
  rw [e]
  rfl
def Lo (x : Option M) : Prop := x = none ∨ ∃ d, x = some (.sh d)
theorem Lo.free {x : Option M} (h : Lo x) (ρ : MI.Env) : MI.free (x :: ρ) 0 = true := by
  rcases h with rfl | ⟨d, rfl⟩ <;> simp
theorem Lo.sh (d : D) : Lo (some (.sh d)) := .inr ⟨d, rfl⟩
theorem filter_some (p : D → Bool) : ∀ xs : List D, xs.filterMap (fun x => if p x then none else some x) = xs.filter fun x => !p x
  | [] => rfl
  | x :: xs => by
    rw [List.filterMap_cons, List.filter_cons, filter_some p xs]
    cases p x <;> rfl
theorem filter_all (p : D → Bool) (xs : List D) : (xs.filter fun x => !p x).isEmpty = xs.all p := by
  induction xs with
  | nil => rfl
  | cons x xs ih =>
    rw [List.filter_cons, List.all_cons]
    cases h : p x
    · rfl
    · simpa using ih
theorem bools_map (p : D → Bool) : ∀ xs : List D, boolsOf (xs.map fun x => .bool (p x)) = some (xs.map p)
  | [] => rfl
  | x :: xs => by simp [boolsOf, bools_map p xs]
theorem all_map (p : D → Bool) (xs : List D) : opB1 .all (.list (xs.map fun x => .bool (p x))) = some (.val (.bool (xs.all p))) := by
  show (boolsOf _).map _ = _
  rw [bools_map]
  simp
theorem insI_sub {x y : Int} : ∀ {l : List Int}, y ∈ insI x l → y = x ∨ y ∈ l
  | [], h => by simpa [insI] using h
  | z :: l, h => by
    simp only [insI] at h
    split at h
    · simpa using h
    · split at h
      · exact .inr h
      · rcases List.mem_cons.mp h with q | q
        · exact .inr (by simp [q])
        · rcases insI_sub q with q | q
          · exact .inl q
          · exact .inr (by simp [q])
theorem ssetI_sub {y : Int} : ∀ {l : List Int}, y ∈ ssetI l → y ∈ l
  | [], h => by simpa [ssetI] using h
  | x :: l, h => by
    rcases insI_sub (show y ∈ insI x (ssetI l) from h) with q | q
    · simp [q]
    · exact List.mem_cons_of_mem _ (ssetI_sub q)
theorem insI_len (x : Int) : ∀ l : List Int, (insI x l).length ≤ l.length + 1
  | [] => by simp [insI]
  | z :: l => by
    simp only [insI]
    split
    · simp
    · split
      · simp
      · have := insI_len x l
        simp only [List.length_cons]
        omega
theorem ssetI_len : ∀ l : List Int, (ssetI l).length ≤ l.length
  | [] => by simp [ssetI]
  | x :: l => by
    have h1 := ssetI_len l
    have h2 := insI_len x (ssetI l)
    show (insI x (ssetI l)).length ≤ _
    simp only [List.length_cons]
    omega
/-- sorted(set(pairs)) -/
theorem sset_ok {xs : List D} (h : ∀ x ∈ xs, ∃ a b : Int, x = .tuple [.int a, .int b] ∧ 0 ≤ a ∧ a < 64 ∧ 0 ≤ b ∧ b < 64) (hl : xs.length < 64) : ∃ ys, ssetD (.list xs) = some (.new ys) ∧ (∀ y ∈ ys, y ∈ xs) ∧ ys.length ≤ xs.length := by
  have key : ∀ xs : List D, (∀ x ∈ xs, ∃ a b : Int, x = .tuple [.int a, .int b] ∧ 0 ≤ a ∧ a < 64 ∧ 0 ≤ b ∧ b < 64) → ∃ ps, pairsOf xs = some ps ∧ ps.length = xs.length ∧ ps.all okPair = true ∧ ∀ c ∈ ps.map codeP, pairD c ∈ xs := by
    intro xs
    induction xs with
    | nil => intro _; exact ⟨[], rfl, rfl, rfl, by simp⟩
    | cons x xs ih =>
      intro h
      obtain ⟨a, b, rfl, h1, h2, h3, h4⟩ := h x List.mem_cons_self
      obtain ⟨ps, e1, e2, e3, e4⟩ := ih fun y hy => h y (List.mem_cons_of_mem _ hy)
      refine ⟨(a, b) :: ps, by simp [pairsOf, e1], by simp [e2], by simp [e3, okPair, h1, h2, h3, h4], fun c hc => ?_⟩
      rw [List.map_cons] at hc
      rcases List.mem_cons.mp hc with rfl | hc
      · have : pairD (codeP (a, b)) = .tuple [.int a, .int b] := by
          unfold pairD codeP
          simp only
          rw [show (a * 64 + b) / 64 = a by omega, show (a * 64 + b) % 64 = b by omega]
        rw [this]
        exact List.mem_cons_self
      · exact List.mem_cons_of_mem _ (e4 c hc)
  obtain ⟨ps, e1, e2, e3, e4⟩ := key xs h
  refine ⟨(ssetI (ps.map codeP)).map pairD, ?_, fun y hy => ?_, ?_⟩
  · have : ps.length < 64 := by omega
    simp only [ssetD, ssetL, e1]
    show gd (decide (ps.length < 64) && ps.all okPair) _ = _
    rw [e3, decide_eq_true this]
    rfl
  · obtain ⟨c, hc, rfl⟩ := List.mem_map.mp hy
    exact e4 c (ssetI_sub hc)
  · have := ssetI_len (ps.map codeP)
    simp only [List.length_map] at this ⊢
    omega
end MI
namespace MI
open PySem
/-! ### what the laws k13 .. k31, k73 .. k79 draw with -/
def B_pen : Fd := ⟨1, 1, [.ret (.lst [.bi1 .list (.sl (.var 0) none (some (.int 63))), .int 0, .int 0])]⟩
def B_draw : Fd := ⟨2, 7, [.ite (.cmp .gt (.idx (.var 0) (.int 2)) (.int 0)) [.asg 5 (.bin .mod (.idx (.var 0) (.int 2)) (.var 1)), .setI 0 (.int 2) (.bin .fdiv (.idx (.var 0) (.int 2)) (.var 1)), .ret (.var 5)] [], .asg 2 (.idx (.var 0) (.int 1)), .setI 0 (.int 1) (.bin .add (.var 2) (.int 1)), .asg 3 (.bin .add (.bin .mul (.int 70121) (.var 2)) (.int 53)), .ite (.cmp .ne (.idx (.var 0) (.int 0)) (.lst [])) [.asg 3 (.idx (.idx (.var 0) (.int 0)) (.bin .mod (.var 2) (.bi1 .len (.idx (.var 0) (.int 0)))))] [], .ite (.and (.cmp .lt (.var 2) (.bi1 .len (.idx (.var 0) (.int 0)))) (.cmp .ge (.bi1 .abs (.var 3)) (.bin .pow (.int 10) (.int 18)))) [.asg 6 (.bin .add (.bin .mul (.int 2) (.bi1 .abs (.var 3))) (.bi1 .int (.cmp .lt (.var 3) (.int 0)))), .setI 0 (.int 2) (.bin .fdiv (.var 6) (.var 1)), .ret (.bin .mod (.var 6) (.var 1))] [], .asg 4 (.bin .mod (.bin .pow (.bin .add (.bin .add (.bin .mod (.var 3) (.int 2147483587)) (.bin .mul (.int 60013) (.var 2))) (.int 29)) (.int 3)) (.int 2147483629)), .asg 4 (.bin .mod (.bin .pow (.bin .add (.bin .mul (.var 4) (.bin .add (.bin .mul (.int 2) (.var 2)) (.int 9))) (.int 91193)) (.int 3)) (.int 2147483543)), .ret (.bin .mod (.bin .fdiv (.var 4) (.int 16)) (.var 1))]⟩
def B_ends_7 : List Sx := [.ret (.tup [.bi2 .min (.var 4) (.var 5), .bi2 .max (.var 4) (.var 5)])]
def B_ends_6 (i_draw : Nat) : List Sx := .ite (.cmp .gt (.var 1) (.int 4)) [.asg 5 (.bin .mod (.bin .add (.bin .add (.var 4) (.int 1)) (.call i_draw [.var 0, .bin .sub (.var 3) (.int 1)] [true, true] [.e 0, .e 1])) (.var 3))] [] :: B_ends_7
def B_ends_5 (i_draw : Nat) : List Sx := .ite (.cmp .eq (.var 1) (.int 4)) [.asg 4 (.idx (.lst [.int 0, .bin .sub (.var 3) (.int 2)]) (.call i_draw [.var 0, .int 2] [true, true] [.e 0, .e 1])), .asg 5 (.bin .add (.var 4) (.int 1))] [] :: B_ends_6 i_draw
def B_ends_4 (i_draw : Nat) : List Sx := .ite (.cmp .eq (.var 1) (.int 3)) [.asg 5 (.bin .mod (.bin .add (.var 4) (.idx (.lst [.int 2, .int 1]) (.bi1 .int (.cmp .eq (.var 3) (.int 2))))) (.var 3))] [] :: B_ends_5 i_draw
def B_ends_3 (i_draw : Nat) : List Sx := .ite (.cmp .eq (.var 1) (.int 1)) [.asg 4 (.bin .mod (.var 2) (.var 3)), .asg 5 (.bin .mod (.bin .add (.var 2) (.int 1)) (.var 3))] [] :: B_ends_4 i_draw
def B_ends_2 (i_draw : Nat) : List Sx := .ite (.cmp .eq (.var 1) (.int 0)) [.asg 4 (.bin .mod (.var 2) (.bin .sub (.var 3) (.int 1))), .asg 5 (.bin .add (.var 4) (.int 1))] [] :: B_ends_3 i_draw
def B_ends (i_draw : Nat) : Fd := ⟨4, 6, .asg 4 (.ite (.or (.cmp .eq (.var 1) (.int 3)) (.cmp .gt (.var 1) (.int 4))) (.call i_draw [.var 0, .var 3] [true, true] [.e 0, .e 1]) (.int 0)) :: .asg 5 (.bin .add (.int 1) (.bin .mod (.var 2) (.bin .sub (.var 3) (.int 1)))) :: B_ends_2 i_draw⟩
def B_price (i_draw : Nat) : Fd := ⟨1, 2, [.asg 1 (.call i_draw [.var 0, .int 3] [true, true] [.e 0, .e 1]), .ite (.cmp .eq (.var 1) (.int 0)) [.ret (.bin .add (.int 1) (.call i_draw [.var 0, .int 9] [true, true] [.e 0, .e 1]))] [], .ret (.ite (.cmp .eq (.var 1) (.int 1)) (.bin .sub (.bin .pow (.int 10) (.int 9)) (.call i_draw [.var 0, .int 3] [true, true] [.e 0, .e 1])) (.bin .add (.int 1) (.call i_draw [.var 0, .int 1000] [true, true] [.e 0, .e 1])))]⟩
def B_bars (i_draw : Nat) : Fd := ⟨2, 8, [.asg 2 (.call i_draw [.var 0, .int 5] [true, true] [.e 0, .e 1]), .asg 3 (.lst []), .ite (.and (.cmp .gt (.var 1) (.int 0)) (.cmp .isin (.var 2) (.tup [.int 1, .int 2]))) [.asg 3 (.comp (.tup [.call i_draw [.var 0, .int 5] [true, true] [.e 0, .e 1], .call i_draw [.var 0, .var 1] [true, true] [.e 0, .e 1]]) (.name 5) (.rng [.bin .add (.int 1) (.call i_draw [.var 0, .int 6] [true, true] [.e 0, .e 1])]) none)] [], .ite (.and (.cmp .gt (.var 1) (.int 0)) (.cmp .eq (.var 2) (.int 3))) [.asg 4 (.call i_draw [.var 0, .int 5] [true, true] [.e 0, .e 1]), .asg 3 (.comp (.tup [.var 4, .var 6]) (.name 6) (.rng [.var 1]) none)] [], .ite (.and (.cmp .gt (.var 1) (.int 0)) (.cmp .eq (.var 2) (.int 4))) [.asg 4 (.call i_draw [.var 0, .var 1] [true, true] [.e 0, .e 1]), .asg 3 (.comp (.tup [.var 7, .var 4]) (.name 7) (.rng [.int 5]) none)] [], .ret (.bi1 .tuple (.sset (.var 3)))]⟩
def B_web (i_bars : Nat) (i_draw : Nat) (i_ends : Nat) (i_price : Nat) : Fd := ⟨3, 10, [.asg 3 (.bin .add (.int 1) (.call i_draw [.var 0, .var 1] [true, true] [.e 0, .e 1])), .asg 4 (.call i_draw [.var 0, .int 6] [true, true] [.e 0, .e 1]), .asg 5 (.lst []), .for (.name 6) (.rng [.call i_draw [.var 0, .bin .add (.var 2) (.int 1)] [true, true] [.e 0, .e 1]]) [.ite (.cmp .gt (.var 3) (.int 1)) [.unp [8, 9] (.call i_ends [.var 0, .var 4, .var 6, .var 3] [true, true, true, true] [.e 0, .e 1, .e 2, .e 3]), .expr (.mu .append 5 [.tup [.var 8, .var 9, .call i_price [.var 0] [true] [.e 0]]])] []], .asg 7 (.bi1 .tuple (.comp (.mu .popAt 5 [.call i_draw [.var 0, .bi1 .len (.var 5)] [true, true] [.e 0, .e 1]]) (.name 6) (.rng [.bi1 .len (.var 5)]) none)), .ret (.tup [.var 3, .var 7, .call i_bars [.var 0, .bi1 .len (.var 7)] [true, false] [.e 0, .e 1]])]⟩
def B_possible : Fd := ⟨2, 8, [.asg 2 (.lst []), .for (.tup [.name 3, .name 4]) (.enum (.idx (.var 1) (.int 0))) [.asg 5 (.comp (.var 6) (.tup [.name 6, .name 7]) (.enum (.idx (.var 0) (.int 1))) (some (.cmp .isin (.var 4) (.sl (.var 7) none (some (.int 2)))))), .asg 2 (.bin .add (.var 2) (.comp (.tup [.var 3, .var 6]) (.name 6) (.seq (.var 5)) (some (.cmp .notin (.tup [.var 3, .var 6]) (.idx (.var 0) (.int 2))))))], .ret (.var 2)]⟩
def B_moved : Fd := ⟨4, 6, [.par 4 5 (.bi1 .list (.idx (.var 1) (.int 0))) (.bi1 .list (.idx (.var 1) (.int 1))), .setI 4 (.var 2) (.bin .sub (.bin .add (.idx (.idx (.idx (.var 0) (.int 1)) (.var 3)) (.int 0)) (.idx (.idx (.idx (.var 0) (.int 1)) (.var 3)) (.int 1))) (.idx (.var 4) (.var 2))), .setI 5 (.var 3) (.var 2), .ret (.tup [.bi1 .tuple (.var 4), .bi1 .tuple (.var 5)])]⟩
def B_played (i_draw : Nat) (i_moved : Nat) (i_possible : Nat) : Fd := ⟨4, 8, [.for (.name 4) (.rng [.call i_draw [.var 0, .bin .add (.var 3) (.int 1)] [true, true] [.e 0, .e 1]]) [.asg 5 (.call i_possible [.var 1, .var 2] [true, true] [.e 0, .e 1]), .ite (.cmp .ne (.var 5) (.lst [])) [.unp [6, 7] (.idx (.var 5) (.call i_draw [.var 0, .bi1 .len (.var 5)] [true, true] [.e 0, .e 1])), .asg 2 (.call i_moved [.var 1, .var 2, .var 6, .var 7] [true, true, false, true] [.e 0, .e 1, .e 2, .e 3])] []], .ret (.var 2)]⟩
def B_standing (i_draw : Nat) (i_played : Nat) : Fd := ⟨3, 9, [.asg 3 (.bi1 .tuple (.comp (.call i_draw [.var 0, .idx (.var 1) (.int 0)] [true, true] [.e 0, .e 1]) (.name 8) (.rng [.var 2]) none)), .asg 4 (.call i_draw [.var 0, .int 4] [true, true] [.e 0, .e 1]), .asg 5 (.comp (.non) (.name 7) (.seq (.idx (.var 1) (.int 1))) none), .ite (.cmp .eq (.var 4) (.int 1)) [.asg 5 (.bin .mul (.lst [.call i_draw [.var 0, .var 2] [true, true] [.e 0, .e 1]]) (.bi1 .len (.var 5)))] [], .ite (.cmp .eq (.var 4) (.int 2)) [.asg 5 (.comp (.idx (.bin .add (.lst [.non]) (.lit (.rng [.var 2]) false)) (.call i_draw [.var 0, .bin .add (.var 2) (.int 1)] [true, true] [.e 0, .e 1])) (.name 7) (.seq (.idx (.var 1) (.int 1))) none)] [], .asg 6 (.tup [.var 3, .bi1 .tuple (.var 5)]), .ret (.ite (.cmp .eq (.var 4) (.int 3)) (.call i_played [.var 0, .var 1, .var 6, .int 30] [true, true, false, true] [.e 0, .e 1, .e 2, .e 3]) (.var 6))]⟩
def B_hope (i_draw : Nat) : Fd := ⟨3, 9, [.asg 3 (.bi1 .tuple (.comp (.call i_draw [.var 0, .idx (.var 1) (.int 0)] [true, true] [.e 0, .e 1]) (.name 7) (.rng [.var 2]) none)), .asg 4 (.join "" (.lst [.str "a", .str "ny"])), .asg 5 (.lst [.lst [.non], .lst [.call i_draw [.var 0, .var 2] [true, true] [.e 0, .e 1]], .lst [.var 4], .bin .add (.lst [.non, .var 4]) (.lit (.rng [.var 2]) false), .lit (.rng [.var 2]) false]), .asg 6 (.idx (.var 5) (.call i_draw [.var 0, .int 5] [true, true] [.e 0, .e 1])), .ret (.tup [.var 3, .bi1 .tuple (.comp (.idx (.var 6) (.call i_draw [.var 0, .bi1 .len (.var 6)] [true, true] [.e 0, .e 1])) (.name 8) (.seq (.idx (.var 1) (.int 1))) none)])]⟩
def B_opened (i_draw : Nat) : Fd := ⟨2, 5, [.asg 2 (.bin .add (.int 1) (.call i_draw [.var 0, .int 4] [true, true] [.e 0, .e 1])), .asg 3 (.join "" (.lst [.str "a", .str "ny"])), .ret (.tup [.idx (.var 1) (.int 0), .bi1 .tuple (.comp (.ite (.cmp .gt (.call i_draw [.var 0, .var 2] [true, true] [.e 0, .e 1]) (.int 0)) (.var 3) (.var 4)) (.name 4) (.seq (.idx (.var 1) (.int 1))) none)])]⟩
variable {prog : List Fd} {fuel : Nat}
theorem w_penB {k i : Nat} {ns : List Int} {ρ : Env} {Q : R → Env → Prop} (hi : prog[i]? = some B_pen) (h : Q (.new (pen (ns.take 63) 0 0)) ρ) : Wp (callR ⟨run prog fuel (k + 1), fuel⟩ i [.sc ns] [.e 0] ρ) Q := by
  have spec : Ret (run prog fuel (k + 1) i [.sc ns]) (fun m fin => m = .ol false (pen (ns.take 63) 0 0) ∧ fin = [.sc ns]) := by
    refine ret_run (fd := B_pen) hi rfl (by decide) rfl ?_
    simp [B_pen]
  refine wp_call (ms := [.sc ns]) rfl (by simp [ownsOf]) (by simp [srcOk]) spec ?_
  rintro m fin ⟨rfl, rfl⟩
  exact ⟨rfl, by simpa [ownsOf, backOf] using h⟩
theorem draw_specB {k f : Nat} (hf : prog[f]? = some B_draw) (cells : List Int) {at_ great many : Int} (h1 : 0 < many) (h2 : many < 1000000000000000000000000000000000000000000000000000000000000) (h3 : 0 ≤ at_) (h4 : at_ < 1000000) (h5 : 0 ≤ great) :
    Ret (run prog fuel (k + 1) f [.ol true (pen cells at_ great), .sh (.int many)]) (DrawP cells at_ many) := by
  refine ret_run hf rfl (by decide) rfl ?_
  have em : ∀ x : Int, 0 ≤ x % many ∧ x % many < many := fun x => ⟨Int.emod_nonneg _ (by omega), Int.emod_lt_of_pos _ h1⟩
  have small : ∀ c : Int, (c % 2147483587 + 60013 * at_ + 29).natAbs < 18446744073709551616 := fun c => by omega
  have mid : ∀ x : Int, 0 ≤ x % 2147483629 ∧ x % 2147483629 < 2147483629 := fun x => by omega
  have last : ∀ x : Int, (x % 2147483629 * (2 * at_ + 9) + 91193).natAbs < 18446744073709551616 := fun x => by
    obtain ⟨m1, m2⟩ := mid x
    have b1 : x % 2147483629 * (2 * at_ + 9) ≤ 2147483629 * 2000009 := Int.mul_le_mul (by omega) (by omega) (by omega) (by omega)
    have b0 : 0 ≤ x % 2147483629 * (2 * at_ + 9) := Int.mul_nonneg m1 (by omega)
    omega
  have done : ∀ (x g2 : Int), 0 ≤ g2 → DrawP cells at_ many (M.sh (.int (x % many))) [.ol true [.list (cells.map .int), .int (at_ + 1), .int g2], .sh (.int many)] := fun x g2 h => ⟨x % many, at_ + 1, g2, rfl, (em x).1, (em x).2, by omega, by omega, h, rfl⟩
  have tail : ∀ (c : Int) (P : Prop), P → ((c % 2147483587 + 60013 * at_ + 29).natAbs < 18446744073709551616 ∧ (((c % 2147483587 + 60013 * at_ + 29) ^ 3 % 2147483629).natAbs < 18446744073709551616 ∨ (2 * at_ + 9).natAbs < 18446744073709551616) ∧
      ((c % 2147483587 + 60013 * at_ + 29) ^ 3 % 2147483629 * (2 * at_ + 9) + 91193).natAbs < 18446744073709551616 ∧ P) := fun c P p => ⟨small c, .inr (by omega), last _, p⟩
  simp [B_draw, h1, h2]
  by_cases hg : 0 < great
  · simp [hg]
    exact ⟨great % many, at_, great / many, rfl, (em _).1, (em _).2, by omega, by omega, Int.ediv_nonneg h5 (by omega), rfl⟩
  · simp [hg]
    have dv : ∀ x : Int, 0 ≤ x → 0 ≤ x / many := fun x h => Int.ediv_nonneg h (by omega)
    cases cells with
    | nil =>
      simp
      refine wpI_of (fun h => ?_) fun _ => tail _ _ (done _ _ h5)
      simp at h
      omega
    | cons c0 cs =>
      obtain ⟨c, hc⟩ := at_ints (cells := c0 :: cs) (i := at_ % ((c0 :: cs).length : Int)) (Int.emod_nonneg _ (by simp; omega)) (Int.emod_lt_of_pos _ (by simp only [List.length_cons]; omega))
      simp at hc
      simp [hc]
      refine wpI_of (fun _ => wpI_of (fun _ => ⟨⟨h1, h2⟩, h1, done _ _ (dv _ ?_)⟩) fun _ => tail _ _ ⟨h1, done _ _ h5⟩) fun _ => tail _ _ ⟨h1, done _ _ h5⟩
      split <;> omega
theorem w_drawB {k j f : Nat} {ρ : Env} {p : Bool} {cells : List Int} {at_ g many : Int} {Q : R → Env → Prop} (hf : prog[f]? = some B_draw) (hj : ρ.get j = some (.ol p (pen cells at_ g))) (h1 : 0 < many) (h2 : many < 1000000000000000000000000000000000000000000000000000000000000) (h3 : 0 ≤ at_) (h4 : at_ < 1000000) (h5 : 0 ≤ g)
    (h : ∀ v at2 g2, 0 ≤ v → v < many → at_ ≤ at2 → at2 ≤ at_ + 1 → 0 ≤ g2 → Q (.val (.int v)) (ρ.set j (some (.ol p (pen cells at2 g2))))) : Wp (callR ⟨run prog fuel (k + 1), fuel⟩ f [.own j, .val (.int many)] [.e 0, .e 1] ρ) Q :=
  call_pen (ds := [.int many]) (n := 1) (P := fun m => ∃ v, m = .sh (.int v) ∧ 0 ≤ v ∧ v < many) hj rfl (by simp) ((draw_specB hf cells h1 h2 h3 h4 h5).mono fun m fin ⟨v, a, g, e, v0, v1, a1, a2, g0, ef⟩ => ⟨a, g, ef, a1, a2, g0, v, e, v0, v1⟩) fun m at2 g2 ⟨v, e, v0, v1⟩ a1 a2 a3 => by subst e; exact h v at2 g2 v0 v1 a1 a2 a3
/-- a pair of rooms -/
def PairB (n : Int) (d : D) : Prop := ∃ a b, d = .tuple [.int a, .int b] ∧ 0 ≤ a ∧ a < n ∧ 0 ≤ b ∧ b < n
theorem ends_specB {k f i : Nat} (hf : prog[f]? = some (B_ends i)) (hd : prog[i]? = some B_draw) (cells : List Int) {at_ g kind w spots : Int} (h3 : 0 ≤ at_) (h4 : at_ + 2 < 1000000) (h5 : 0 ≤ g) (k0 : 0 ≤ kind) (k1 : kind < 6) (s0 : 2 ≤ spots) (s1 : spots ≤ 12) (w0 : 0 ≤ w) :
    Ret (run prog fuel (k + 2) f (.ol true (pen cells at_ g) :: ([.int kind, .int w, .int spots] : List D).map .sh)) (PenQ cells at_ 2 (fun m => ∃ d, m = .sh d ∧ PairB spots d) (([.int kind, .int w, .int spots] : List D).map .sh)) := by
  refine ret_run (fd := B_ends i) hf rfl (Nat.le_of_ble_eq_true rfl) rfl ?_
  have md : ∀ x : Int, 0 ≤ x % spots ∧ x % spots < spots := fun x => ⟨Int.emod_nonneg _ (by omega), Int.emod_lt_of_pos _ (by omega)⟩
  have md1 : ∀ x : Int, 0 ≤ x % (spots - 1) ∧ x % (spots - 1) < spots - 1 := fun x => ⟨Int.emod_nonneg _ (by omega), Int.emod_lt_of_pos _ (by omega)⟩
  have p1 : (1 : Int) < spots := by omega
  have p2 : (0 : Int) < spots := by omega
  have fin : ∀ {x y a2 g2 : Int}, 0 ≤ x → x < spots → 0 ≤ y → y < spots → at_ ≤ a2 → a2 ≤ at_ + 2 → 0 ≤ g2 → PenQ cells at_ 2 (fun m => ∃ d, m = .sh d ∧ PairB spots d) [.sh (.int kind), .sh (.int w), .sh (.int spots)] (.sh (.tuple [.int (if y < x then y else x), .int (if y > x then y else x)])) [.ol true (pen cells a2 g2), .sh (.int kind), .sh (.int w), .sh (.int spots)] := by
    intro x y a2 g2 x0 x1 y0 y1 b1 b2 b3
    exact penq b1 b2 b3 ⟨_, rfl, _, _, rfl, by split <;> omega, by split <;> omega, by split <;> omega, by split <;> omega⟩
  have q1 := md1 w
  have q2 := md w
  have q3 := md (w + 1)
  have hk : kind = 0 ∨ kind = 1 ∨ kind = 2 ∨ kind = 3 ∨ kind = 4 ∨ kind = 5 := by omega
  rcases hk with rfl | rfl | rfl | rfl | rfl | rfl
  · simp [B_ends, p1, p2]
    simp [B_ends_2, p1, p2]
    simp [B_ends_3]
    simp [B_ends_4]
    simp [B_ends_5]
    simp [B_ends_6]
    simp [B_ends_7]
    exact fin (by omega) (by omega) (by omega) (by omega) (by omega) (by omega) h5
  · simp [B_ends, p1, p2]
    simp [B_ends_2]
    simp [B_ends_3, p1, p2]
    simp [B_ends_4]
    simp [B_ends_5]
    simp [B_ends_6]
    simp [B_ends_7]
    exact fin (by omega) (by omega) (by omega) (by omega) (by omega) (by omega) h5
  · simp [B_ends, p1, p2]
    simp [B_ends_2]
    simp [B_ends_3]
    simp [B_ends_4]
    simp [B_ends_5]
    simp [B_ends_6]
    simp [B_ends_7]
    exact fin (by omega) (by omega) (by omega) (by omega) (by omega) (by omega) h5
  · simp [B_ends, p1, p2]
    refine w_drawB hd rfl (by omega) (by omega) h3 (by omega) h5 fun v1 a1 g1 u1 u2 u3 u4 u5 => ?_
    simp [p1, p2]
    simp [B_ends_2]
    simp [B_ends_3]
    have pick : ∃ c, atD [PyData.int 2, PyData.int 1] (if spots = 2 then 1 else 0) = some (.int c) := by
      split
      · exact ⟨1, by simp⟩
      · exact ⟨2, by simp⟩
    obtain ⟨c, e⟩ := pick
    simp [B_ends_4, e, p2]
    simp [B_ends_5]
    simp [B_ends_6]
    simp [B_ends_7]
    have q4 := md (v1 + c)
    exact fin (by omega) (by omega) (by omega) (by omega) (by omega) (by omega) u5
  · simp [B_ends, p1, p2]
    simp [B_ends_2]
    simp [B_ends_3]
    simp [B_ends_4]
    simp [B_ends_5]
    refine w_drawB hd rfl (by omega) (by omega) h3 (by omega) h5 fun v1 a1 g1 u1 u2 u3 u4 u5 => ?_
    simp
    have pick : ∃ c, atD [PyData.int 0, PyData.int (spots - 2)] v1 = some (.int c) ∧ 0 ≤ c ∧ c + 1 < spots := by
      have : v1 = 0 ∨ v1 = 1 := by omega
      rcases this with rfl | rfl
      · exact ⟨0, by simp, by omega, by omega⟩
      · exact ⟨spots - 2, by simp, by omega, by omega⟩
    obtain ⟨c, e, c0, c1⟩ := pick
    simp [e]
    simp [B_ends_6]
    simp [B_ends_7]
    exact fin (by omega) (by omega) (by omega) (by omega) (by omega) (by omega) u5
  · simp [B_ends, p1, p2]
    refine w_drawB hd rfl (by omega) (by omega) h3 (by omega) h5 fun v1 a1 g1 u1 u2 u3 u4 u5 => ?_
    simp [p1, p2]
    simp [B_ends_2]
    simp [B_ends_3]
    simp [B_ends_4]
    simp [B_ends_5]
    simp [B_ends_6]
    refine w_drawB hd rfl (by omega) (by omega) (by omega) (by omega) u5 fun v2 a2 g2 x1 x2 x3 x4 x5 => ?_
    simp [p1, p2]
    simp [B_ends_7]
    have q4 := md (v1 + 1 + v2)
    exact fin (by omega) (by omega) (by omega) (by omega) (by omega) (by omega) x5
theorem price_specB {k f i : Nat} (hf : prog[f]? = some (B_price i)) (hd : prog[i]? = some B_draw) (cells : List Int) {at_ g : Int} (h3 : 0 ≤ at_) (h4 : at_ + 3 < 1000000) (h5 : 0 ≤ g) :
    Ret (run prog fuel (k + 2) f (.ol true (pen cells at_ g) :: ([] : List D).map .sh)) (PenQ cells at_ 2 (fun m => ∃ v, m = .sh (.int v) ∧ 1 ≤ v ∧ v ≤ 1000000000) (([] : List D).map .sh)) := by
  refine ret_run (fd := B_price i) hf rfl (Nat.le_of_ble_eq_true rfl) rfl ?_
  simp [B_price]
  refine w_drawB hd rfl (by decide) (by decide) h3 (by omega) h5 fun v1 a1 g1 u1 u2 u3 u4 u5 => ?_
  simp
  refine wpI_of (fun _ => ?_) fun _ => wpI_of (fun _ => ?_) fun _ => ?_
  · refine w_drawB hd rfl (by decide) (by decide) (by omega) (by omega) u5 fun v2 a2 g2 w1 w2 w3 w4 w5 => ?_
    simp
    exact penq (by omega) (by omega) w5 ⟨_, rfl, by omega, by omega⟩
  · refine w_drawB hd rfl (by decide) (by decide) (by omega) (by omega) u5 fun v2 a2 g2 w1 w2 w3 w4 w5 => ?_
    simp
    exact penq (by omega) (by omega) w5 ⟨_, rfl, by omega, by omega⟩
  · refine w_drawB hd rfl (by decide) (by decide) (by omega) (by omega) u5 fun v2 a2 g2 w1 w2 w3 w4 w5 => ?_
    simp
    exact penq (by omega) (by omega) w5 ⟨_, rfl, by omega, by omega⟩
end MI
namespace MI
open PySem
variable {prog : List Fd} {fuel : Nat}
@[simp] theorem in_12 (v : Int) : opCmp .isin (.int v) (.tuple [.int 1, .int 2]) = some (v == 1 || v == 2) := by
  have e : opCmp .isin (.int v) (.tuple [.int 1, .int 2]) = some (memD (.int v) [.int 1, .int 2]) := rfl
  rw [e]
  congr 1
  simp [memD, PyData.eqv]
  have h1 : ((1 : Int) == v) = (v == 1) := by
    by_cases h : v = 1
    · subst h; rfl
    · have h' : ¬ (1 = v) := fun z => h z.symm
      rw [beq_eq_false_iff_ne.mpr h, beq_eq_false_iff_ne.mpr h']
  have h2 : ((2 : Int) == v) = (v == 2) := by
    by_cases h : v = 2
    · subst h; rfl
    · have h' : ¬ (2 = v) := fun z => h z.symm
      rw [beq_eq_false_iff_ne.mpr h, beq_eq_false_iff_ne.mpr h']
  first | rw [h1, h2] | skip
def BarsB (many : Int) (ds : List D) : Prop := ∀ d ∈ ds, ∃ a b : Int, d = .tuple [.int a, .int b] ∧ 0 ≤ a ∧ a < 5 ∧ 0 ≤ b ∧ b < many
theorem bars_done {many : Int} {xs : List D} (h : BarsB many xs) (hl : xs.length ≤ 24) (m1 : many ≤ 24) : ∃ ys, ssetD (.list xs) = some (.new ys) ∧ BarsB many ys ∧ ys.length ≤ 24 := by
  obtain ⟨ys, e, hm, hy⟩ := sset_ok (xs := xs) (fun x hx => by
    obtain ⟨a, b, rfl, q1, q2, q3, q4⟩ := h x hx
    exact ⟨a, b, rfl, q1, by omega, q3, by omega⟩) (by omega)
  exact ⟨ys, e, fun y hy' => h y (hm y hy'), by omega⟩
theorem bars_specB {k f i : Nat} (hf : prog[f]? = some (B_bars i)) (hd : prog[i]? = some B_draw) (cells : List Int) {at_ g many : Int} (h3 : 0 ≤ at_) (h4 : at_ + 20 < 1000000) (h5 : 0 ≤ g) (m0 : 0 ≤ many) (m1 : many ≤ 24) :
    Ret (run prog fuel (k + 2) f (.ol true (pen cells at_ g) :: ([.int many] : List D).map .sh)) (PenQ cells at_ 15 (fun m => ∃ ds, m = .sh (.tuple ds) ∧ BarsB many ds ∧ ds.length ≤ 24) (([.int many] : List D).map .sh)) := by
  refine ret_run (fd := B_bars i) hf rfl (Nat.le_of_ble_eq_true rfl) rfl ?_
  simp [B_bars]
  refine w_drawB hd rfl (by omega) (by omega) h3 (by omega) h5 fun pick a1 g1 u1 u2 u3 u4 u5 => ?_
  simp
  have nil : ∃ ys, ssetD (.list []) = some (.new ys) ∧ BarsB many ys ∧ ys.length ≤ 24 := bars_done (fun _ h => by cases h) (by simp) m1
  by_cases hm : 0 < many
  · have hp : (pick = 1 ∨ pick = 2) ∨ pick = 0 ∨ pick = 3 ∨ pick = 4 := by omega
    rcases hp with hp | rfl | rfl | rfl
    · have e12 : (pick == 1 || pick == 2) = true := by rcases hp with rfl | rfl <;> rfl
      have n3 : ¬ (pick = 3) := by omega
      have n4 : ¬ (pick = 4) := by omega
      simp [hm, e12]
      refine w_drawB hd rfl (by omega) (by omega) (by omega) (by omega) u5 fun v a2 g2 x1 x2 x3 x4 x5 => ?_
      simp
      refine ⟨small_of (by omega) (by omega), rfl, ?_⟩
      refine wp_compL (fun j acc ρ => ∃ a3 g3 x5, ρ = [some (.ol true (pen cells a3 g3)), some (.sh (.int many)), some (.sh (.int pick)), some (.ol false []), none, x5, none, none] ∧ a2 ≤ a3 ∧ a3 ≤ a2 + 2 * j ∧ 0 ≤ g3 ∧ BarsB many acc ∧ acc.length ≤ j)
        ⟨a2, g2, none, rfl, by omega, by omega, x5, (fun _ h => by cases h), by simp⟩ ?_ ?_
      · rintro j d acc ρ hd' ⟨a3, g3, x5, rfl, c1, c2, c3, c4, c5⟩
        obtain ⟨hj, rfl⟩ := rngD_get hd'
        simp [wipeE, Tg.vars]
        refine w_drawB hd rfl (by omega) (by omega) (by omega) (by omega) c3 fun v1 a4 g4 y1 y2 y3 y4 y5 => ?_
        simp
        refine w_drawB hd rfl (by omega) (by omega) (by omega) (by omega) y5 fun v2 a5 g5 z1 z2 z3 z4 z5 => ?_
        simp
        have l5 : acc.length < 16777216 := by omega
        refine ⟨l5, a5, g5, ⟨_, rfl⟩, by omega, by omega, z5, ?_, by rw [List.length_append]; exact Nat.succ_le_succ c5⟩
        refine app_all (P := fun d => ∃ a b : Int, d = .tuple [.int a, .int b] ∧ 0 ≤ a ∧ a < 5 ∧ 0 ≤ b ∧ b < many) c4 fun x hx => ?_
        rw [List.mem_singleton.mp hx]
        exact ⟨v1, v2, rfl, y1, y2, z1, z2⟩
      · rintro acc ρ ⟨a3, g3, x5, rfl, c1, c2, c3, c4, c5⟩
        rw [rngD_len] at c2 c5
        obtain ⟨ys, ey, b1, b2⟩ := bars_done c4 (by omega) m1
        simp [backE, Tg.vars, hm, n3, n4, ey]
        exact penq (by omega) (by omega) c3 ⟨ys, rfl, b1, b2⟩
    · obtain ⟨ys, ey, b1, b2⟩ := nil
      simp [hm, ey]
      exact penq (by omega) (by omega) u5 ⟨ys, rfl, b1, b2⟩
    · simp [hm]
      refine w_drawB hd rfl (by omega) (by omega) (by omega) (by omega) u5 fun v a2 g2 x1 x2 x3 x4 x5 => ?_
      simp
      refine ⟨small_of (by omega) (by omega), rfl, ?_⟩
      refine wp_compL (fun j acc ρ => ∃ x6, ρ = [some (.ol true (pen cells a2 g2)), some (.sh (.int many)), some (.sh (.int 3)), some (.ol false []), some (.sh (.int v)), none, x6, none] ∧ BarsB many acc ∧ acc.length ≤ j)
        ⟨none, rfl, (fun _ h => by cases h), by simp⟩ ?_ ?_
      · rintro j d acc ρ hd' ⟨x6, rfl, c4, c5⟩
        obtain ⟨hj, rfl⟩ := rngD_get hd'
        simp [wipeE, Tg.vars]
        have l5 : acc.length < 16777216 := by omega
        refine ⟨l5, ⟨_, rfl⟩, ?_, by rw [List.length_append]; exact Nat.succ_le_succ c5⟩
        refine app_all (P := fun d => ∃ a b : Int, d = .tuple [.int a, .int b] ∧ 0 ≤ a ∧ a < 5 ∧ 0 ≤ b ∧ b < many) c4 fun x hx => ?_
        rw [List.mem_singleton.mp hx]
        exact ⟨v, _, rfl, x1, x2, by omega, by omega⟩
      · rintro acc ρ ⟨x6, rfl, c4, c5⟩
        rw [rngD_len] at c5
        obtain ⟨ys, ey, b1, b2⟩ := bars_done c4 (by omega) m1
        simp [backE, Tg.vars, hm, ey]
        exact penq (by omega) (by omega) x5 ⟨ys, rfl, b1, b2⟩
    · simp [hm]
      refine w_drawB hd rfl (by omega) (by omega) (by omega) (by omega) u5 fun v a2 g2 x1 x2 x3 x4 x5 => ?_
      simp
      refine ⟨by decide, rfl, ?_⟩
      refine wp_compL (fun j acc ρ => ∃ x7, ρ = [some (.ol true (pen cells a2 g2)), some (.sh (.int many)), some (.sh (.int 4)), some (.ol false []), some (.sh (.int v)), none, none, x7] ∧ BarsB many acc ∧ acc.length ≤ j)
        ⟨none, rfl, (fun _ h => by cases h), by simp⟩ ?_ ?_
      · rintro j d acc ρ hd' ⟨x7, rfl, c4, c5⟩
        obtain ⟨hj, rfl⟩ := rngD_get hd'
        have hj5 : j < 5 := hj
        simp [wipeE, Tg.vars]
        have l5 : acc.length < 16777216 := by omega
        refine ⟨l5, ⟨_, rfl⟩, ?_, by rw [List.length_append]; exact Nat.succ_le_succ c5⟩
        refine app_all (P := fun d => ∃ a b : Int, d = .tuple [.int a, .int b] ∧ 0 ≤ a ∧ a < 5 ∧ 0 ≤ b ∧ b < many) c4 fun x hx => ?_
        rw [List.mem_singleton.mp hx]
        exact ⟨_, v, rfl, by omega, by omega, x1, x2⟩
      · rintro acc ρ ⟨x7, rfl, c4, c5⟩
        rw [show (rngD 0 5 1).length = 5 from rfl] at c5
        obtain ⟨ys, ey, b1, b2⟩ := bars_done c4 (by omega) m1
        simp [backE, Tg.vars, hm, ey]
        exact penq (by omega) (by omega) x5 ⟨ys, rfl, b1, b2⟩
  · obtain ⟨ys, ey, b1, b2⟩ := nil
    simp [hm, ey]
    exact penq (by omega) (by omega) u5 ⟨ys, rfl, b1, b2⟩
end MI
namespace MI
open PySem
variable {prog : List Fd} {fuel : Nat}
def GateB (r : Int) (x : D) : Prop := ∃ a b c : Int, x = .tuple [.int a, .int b, .int c] ∧ 0 ≤ a ∧ a < r ∧ 0 ≤ b ∧ b < r ∧ 1 ≤ c ∧ c ≤ 1000000000
/-- a web of family B -/
structure WebB (mr : Int) (mg : Nat) (d : D) : Prop where
  ex : ∃ (r : Int) (gates bars : List D), d = .tuple [.int r, .tuple gates, .tuple bars] ∧ 1 ≤ r ∧ r ≤ mr ∧ gates.length ≤ mg ∧ (∀ x ∈ gates, GateB r x) ∧ BarsB gates.length bars ∧ bars.length ≤ 24
theorem web_specB {k f id ie ip ib : Nat} (hf : prog[f]? = some (B_web ib id ie ip)) (hd : prog[id]? = some B_draw) (he : prog[ie]? = some (B_ends id)) (hp : prog[ip]? = some (B_price id)) (hb : prog[ib]? = some (B_bars id)) (cells : List Int) {at_ g mr mg : Int} (h3 : 0 ≤ at_) (h4 : at_ + 200 < 1000000) (h5 : 0 ≤ g) (r0 : 1 ≤ mr) (r1 : mr ≤ 12) (m0 : 0 ≤ mg) (m1 : mg ≤ 24) :
    Ret (run prog fuel (k + 3) f (.ol true (pen cells at_ g) :: ([.int mr, .int mg] : List D).map .sh)) (PenQ cells at_ 150 (fun m => ∃ d, m = .sh d ∧ WebB mr mg.toNat d) (([.int mr, .int mg] : List D).map .sh)) := by
  refine ret_run (fd := B_web ib id ie ip) hf rfl (Nat.le_of_ble_eq_true rfl) rfl ?_
  simp [B_web]
  refine w_drawB hd rfl (by omega) (by omega) h3 (by omega) h5 fun v1 a1 g1 u1 u2 u3 u4 u5 => ?_
  simp
  refine w_drawB hd rfl (by omega) (by omega) (by omega) (by omega) u5 fun kind a2 g2 x1 x2 x3 x4 x5 => ?_
  simp
  refine w_drawB hd rfl (by omega) (by omega) (by omega) (by omega) x5 fun n a3 g3 y1 y2 y3 y4 y5 => ?_
  simp
  generalize hr : 1 + v1 = r
  have r2 : 1 ≤ r := by omega
  have r3 : r ≤ mr := by omega
  refine ⟨small_of y1 (by omega), ?_⟩
  refine wp_forL (fun i ρ => ∃ a g rows x6 x8 x9, ρ = [some (.ol true (pen cells a g)), some (.sh (.int mr)), some (.sh (.int mg)), some (.sh (.int r)), some (.sh (.int kind)), some (.ol false rows), x6, none, x8, x9] ∧ a3 ≤ a ∧ a ≤ a3 + 4 * i ∧ 0 ≤ g ∧ rows.length ≤ i ∧ (∀ x ∈ rows, GateB r x) ∧ Lo x6 ∧ Lo x8 ∧ Lo x9)
    ⟨a3, g3, [], none, none, none, rfl, by omega, by omega, y5, by simp, (fun _ h => by cases h), .inl rfl, .inl rfl, .inl rfl⟩ ?_ ?_
  · rintro i d ρ hd' ⟨a, g, rows, x6, x8, x9, rfl, b1, b2, b3, b4, b5, l6, l8, l9⟩
    obtain ⟨hi, rfl⟩ := rngD_get hd'
    simp [l6.free]
    refine wpI_of (fun hr2 => ?_) fun _ => ⟨a, g, rows, _, _, _, rfl, by omega, by omega, b3, by omega, b5, .sh _, l8, l9⟩
    have hr2 : 2 ≤ r := by simp at hr2; omega
    refine call_pen (ds := [.int kind, .int i, .int r]) (n := 2) rfl rfl (by simp) (ends_specB (k := k) he hd cells (by omega) (by omega) b3 x1 x2 hr2 (by omega) (by omega)) fun m a6 g6 ⟨d, e, x, y, ed, q1, q2, q3, q4⟩ s1 s2 s3 => ?_
    subst e ed
    simp [l8.free, l9.free]
    refine call_pen (ds := []) (n := 2) rfl rfl (by simp) (price_specB (k := k) hp hd cells (by omega) (by omega) s3) fun m a7 g7 ⟨c, e, c0, c1⟩ t1 t2 t3 => ?_
    subst e
    simp
    have l5 : rows.length < 16777216 := by omega
    refine ⟨l5, ?_⟩
    refine ⟨a7, g7, rows ++ [.tuple [.int x, .int y, .int c]], _, _, _, rfl, by omega, by omega, t3, by rw [List.length_append]; exact Nat.succ_le_succ b4, ?_, .sh _, .sh _, .sh _⟩
    refine app_all b5 fun z hz => ?_
    rw [List.mem_singleton.mp hz]
    exact ⟨x, y, c, rfl, q1, q2, q3, q4, c0, c1⟩
  · intro ρ hρ
    rw [rngD_len] at hρ
    obtain ⟨a, g, rows, x6, x8, x9, h⟩ := hρ
    obtain ⟨e, b1, h⟩ := h
    obtain ⟨b2, h⟩ := h
    obtain ⟨b3, h⟩ := h
    obtain ⟨b4, h⟩ := h
    obtain ⟨b5, l6, h⟩ := h
    obtain ⟨l8, l9⟩ := h
    subst e
    simp
    refine ⟨small_of (by omega) (by omega), ?_, ?_⟩
    · rcases l6 with rfl | ⟨d, rfl⟩ <;> rfl
    refine wp_compL (fun j acc ρ => ∃ a5 g5 rw5 x6, ρ = [some (.ol true (pen cells a5 g5)), some (.sh (.int mr)), some (.sh (.int mg)), some (.sh (.int r)), some (.sh (.int kind)), some (.ol false rw5), x6, none, x8, x9] ∧ a ≤ a5 ∧ a5 ≤ a + j ∧ 0 ≤ g5 ∧ rw5.length + j = rows.length ∧ (∀ x ∈ rw5, GateB r x) ∧ acc.length ≤ j ∧ ∀ x ∈ acc, GateB r x)
      ⟨a, g, rows, x6, rfl, by omega, by omega, b3, rfl, b5, by simp, (fun _ h => by cases h)⟩ ?_ ?_
    · rintro j d acc ρ hd' ⟨a5, g5, rw5, x6', rfl, c1, c2, c3, c4, c5, c6, c7⟩
      obtain ⟨hj, rfl⟩ := rngD_get hd'
      simp [wipeE, Tg.vars]
      have hj' : j < rows.length := by simpa using hj
      refine w_drawB hd rfl (by omega) (by omega) (by omega) (by omega) c3 fun v a6 g6 z1 z2 z3 z4 z5 => ?_
      simp
      obtain ⟨y, ey, my⟩ := popAt_ok (xs := rw5) z1 z2 (by omega)
      simp [ey]
      have l5 : acc.length < 16777216 := by omega
      refine ⟨l5, a6, g6, _, ⟨_, rfl⟩, by omega, by omega, z5, ?_, fun x hx => c5 x (List.mem_of_mem_eraseIdx hx), by rw [List.length_append]; exact Nat.succ_le_succ c6, ?_⟩
      · rw [List.length_eraseIdx_of_lt (by omega)]
        omega
      · refine app_all c7 fun z hz => ?_
        rw [List.mem_singleton.mp hz]
        exact c5 y my
    · rintro acc ρ ⟨a5, g5, rw5, x6', rfl, c1, c2, c3, c4, c5, c6, c7⟩
      rw [rngD_len] at c2 c6
      simp [backE, Tg.vars]
      have hl : acc.length ≤ 24 := by omega
      refine call_pen (ds := [.int acc.length]) (n := 15) rfl rfl (by simp) (bars_specB (k := k) hb hd cells (by omega) (by omega) c3 (by omega) (by omega)) fun m a7 g7 ⟨bs, e, w1, w2⟩ t1 t2 t3 => ?_
      subst e
      simp
      refine penq (by omega) (by omega) t3 ⟨_, rfl, r, acc, bs, rfl, r2, r3, ?_, c7, w1, w2⟩
      omega
/-- a wish of family B -/
structure HopeB (r : Int) (n : Nat) (w : Nat) (d : D) : Prop where
  ex : ∃ hs ls : List D, d = .tuple [.tuple hs, .tuple ls] ∧ hs.length = w ∧ ls.length = n ∧ (∀ x ∈ hs, ∃ a : Int, x = .int a ∧ 0 ≤ a ∧ a < r) ∧ ∀ x ∈ ls, x = .none ∨ x = .str (Str.ofString "any") ∨ ∃ a : Int, x = .int a ∧ 0 ≤ a ∧ a < w
end MI
namespace MI
open PySem
variable {prog : List Fd} {fuel : Nat}
def OwnerB (w : Nat) (x : D) : Prop := x = .none ∨ x = .str (Str.ofString "any") ∨ ∃ a : Int, x = .int a ∧ 0 ≤ a ∧ a < w
theorem join_any : joinD (Str.ofString "") (.list [.str (Str.ofString "a"), .str (Str.ofString "ny")]) = some (.val (.str (Str.ofString "any"))) := by
  have e : Str.join (Str.ofString "") [Str.ofString "a", Str.ofString "ny"] = Str.ofString "any" := by decide +kernel
  have e2 : joinD (Str.ofString "") (.list [.str (Str.ofString "a"), .str (Str.ofString "ny")]) = some (.val (.str (Str.join (Str.ofString "") [Str.ofString "a", Str.ofString "ny"]))) := rfl
  rw [e2, e]
theorem rng_mem {w : Nat} {x : D} (h : x ∈ rngD 0 w 1) : ∃ a : Int, x = .int a ∧ 0 ≤ a ∧ a < w := by
  unfold rngD at h
  obtain ⟨k, hk, rfl⟩ := List.mem_map.mp h
  have := List.mem_range.mp hk
  exact ⟨_, rfl, by omega, by omega⟩
theorem hope_specB {k f i : Nat} (hf : prog[f]? = some (B_hope i)) (hd : prog[i]? = some B_draw) (cells : List Int) {at_ g r : Int} {gates : List D} {bars : D} {w : Nat} (h3 : 0 ≤ at_) (h4 : at_ + 50 < 1000000) (h5 : 0 ≤ g) (r0 : 1 ≤ r) (r1 : r ≤ 12) (gl : gates.length ≤ 24) (w0 : 1 ≤ w) (w1 : w ≤ 5) :
    Ret (run prog fuel (k + 2) f (.ol true (pen cells at_ g) :: ([.tuple [.int r, .tuple gates, bars], .int w] : List D).map .sh)) (PenQ cells at_ 40 (fun m => ∃ d, m = .sh d ∧ HopeB r gates.length w d) (([.tuple [.int r, .tuple gates, bars], .int w] : List D).map .sh)) := by
  refine ret_run (fd := B_hope i) hf rfl (Nat.le_of_ble_eq_true rfl) rfl ?_
  simp [B_hope]
  refine ⟨small_of (by omega) (by omega), rfl, ?_⟩
  refine wp_compL (fun j acc ρ => ∃ a3 g3 x7, ρ = [some (.ol true (pen cells a3 g3)), some (.sh (.tuple [.int r, .tuple gates, bars])), some (.sh (.int w)), none, none, none, none, x7, none] ∧ at_ ≤ a3 ∧ a3 ≤ at_ + j ∧ 0 ≤ g3 ∧ acc.length = j ∧ ∀ x ∈ acc, ∃ a : Int, x = .int a ∧ 0 ≤ a ∧ a < r)
    ⟨at_, g, none, rfl, by omega, by omega, h5, rfl, by simp⟩ ?_ ?_
  · rintro j d acc ρ hd' ⟨a3, g3, x7, rfl, c1, c2, c3, c4, c5⟩
    obtain ⟨hj, rfl⟩ := rngD_get hd'
    simp [wipeE, Tg.vars]
    have hj' : j < w := by simpa using hj
    refine w_drawB hd rfl (by omega) (by omega) (by omega) (by omega) c3 fun v a4 g4 y1 y2 y3 y4 y5 => ?_
    simp
    have l5 : acc.length < 16777216 := by omega
    refine ⟨l5, a4, g4, ⟨_, rfl⟩, by omega, by omega, y5, by simp [c4], ?_⟩
    refine app_all (P := fun x => ∃ a : Int, x = .int a ∧ 0 ≤ a ∧ a < r) c5 fun x hx => ?_
    rw [List.mem_singleton.mp hx]
    exact ⟨v, rfl, y1, y2⟩
  · rintro hs ρ ⟨a3, g3, x7, rfl, c1, c2, c3, c4, c5⟩
    rw [rngD_len] at c2 c4
    simp [backE, Tg.vars, join_any]
    refine w_drawB hd rfl (by omega) (by omega) (by omega) (by omega) c3 fun v a4 g4 y1 y2 y3 y4 y5 => ?_
    have sm : small62 (w : Int) = true := small_of (by omega) (by omega)
    have lw : w ≤ 16777216 := by omega
    have l2 : w + 2 ≤ 16777216 := by omega
    have l3 : 2 + w ≤ 16777216 := by omega
    simp [sm, rngD_len, lw]
    refine ⟨l3, ?_⟩
    refine w_drawB hd rfl (by omega) (by omega) (by omega) (by omega) y5 fun p a5 g5 z1 z2 z3 z4 z5 => ?_
    simp
    have own : ∀ x ∈ rngD 0 w 1, OwnerB w x := fun x hx => .inr (.inr (rng_mem hx))
    have pick : ∃ xs, atD [PyData.list [PyData.none], PyData.list [PyData.int v], PyData.list [PyData.str (Str.ofString "any")], PyData.list (PyData.none :: PyData.str (Str.ofString "any") :: rngD 0 w 1), PyData.list (rngD 0 w 1)] p = some (.list xs) ∧ 1 ≤ xs.length ∧ xs.length ≤ 10 ∧ ∀ x ∈ xs, OwnerB w x := by
      obtain ⟨d, e, hm⟩ := at_mem (xs := [PyData.list [PyData.none], PyData.list [PyData.int v], PyData.list [PyData.str (Str.ofString "any")], PyData.list (PyData.none :: PyData.str (Str.ofString "any") :: rngD 0 w 1), PyData.list (rngD 0 w 1)]) z1 (by simpa using z2)
      simp only [List.mem_cons, List.not_mem_nil, or_false] at hm
      rcases hm with rfl | rfl | rfl | rfl | rfl
      · refine ⟨_, e, by simp, by simp, fun x hx => ?_⟩
        rw [List.mem_singleton.mp hx]
        exact .inl rfl
      · refine ⟨_, e, by simp, by simp, fun x hx => ?_⟩
        rw [List.mem_singleton.mp hx]
        exact .inr (.inr ⟨v, rfl, y1, y2⟩)
      · refine ⟨_, e, by simp, by simp, fun x hx => ?_⟩
        rw [List.mem_singleton.mp hx]
        exact .inr (.inl rfl)
      · refine ⟨_, e, by simp, by simp [rngD_len]; omega, fun x hx => ?_⟩
        rcases List.mem_cons.mp hx with rfl | hx
        · exact .inl rfl
        · rcases List.mem_cons.mp hx with rfl | hx
          · exact .inr (.inl rfl)
          · exact own x hx
      · exact ⟨_, e, by rw [rngD_len]; omega, by rw [rngD_len]; omega, own⟩
    obtain ⟨xs, e, e1, e2, e3⟩ := pick
    simp [e]
    refine ⟨rfl, ?_⟩
    refine wp_compL (fun j acc ρ => ∃ a6 g6 x8, ρ = [some (.ol true (pen cells a6 g6)), some (.sh (.tuple [.int r, .tuple gates, bars])), some (.sh (.int w)), some (.sh (.tuple hs)), some (.sh (.str (Str.ofString "any"))), some (.ol false [PyData.list [PyData.none], PyData.list [PyData.int v], PyData.list [PyData.str (Str.ofString "any")], PyData.list (PyData.none :: PyData.str (Str.ofString "any") :: rngD 0 w 1), PyData.list (rngD 0 w 1)]), some (.sh (.list xs)), none, x8] ∧ a5 ≤ a6 ∧ a6 ≤ a5 + j ∧ 0 ≤ g6 ∧ acc.length = j ∧ ∀ x ∈ acc, OwnerB w x)
      ⟨a5, g5, none, rfl, by omega, by omega, z5, rfl, by simp⟩ ?_ ?_
    · rintro j d acc ρ hd' ⟨a6, g6, x8, rfl, c1', c2', c3', c4', c5'⟩
      have hj : j < gates.length := (List.getElem?_eq_some_iff.mp hd').1
      simp [wipeE, Tg.vars]
      refine w_drawB hd rfl (by omega) (by omega) (by omega) (by omega) c3' fun v2 a7 g7 s1 s2 s3 s4 s5 => ?_
      simp
      refine wpO_at s1 s2 fun x hx => ?_
      have l5 : acc.length < 16777216 := by omega
      refine ⟨l5, a7, g7, ⟨_, rfl⟩, by omega, by omega, s5, by simp [c4'], ?_⟩
      refine app_all c5' fun y hy => ?_
      rw [List.mem_singleton.mp hy]
      exact e3 x hx
    · rintro acc ρ ⟨a6, g6, x8, rfl, c1', c2', c3', c4', c5'⟩
      simp [backE, Tg.vars]
      exact penq (by omega) (by omega) c3' ⟨_, rfl, hs, acc, rfl, by simpa using c4, c4', c5, c5'⟩
end MI
namespace MI
open PySem
variable {prog : List Fd} {fuel : Nat}
/-- a call that keeps nothing and lends nothing, whatever it gives -/
theorem call_shP {cx : Cxt} {f : Nat} {ρ : Env} {ds : List D} {src : List Arg} {P : M → Prop} {Q : R → Env → Prop} (hsrc : src = (List.range ds.length).map .e) (hl : ds.length ≤ 4) (hr : Ret (cx.φ f (ds.map .sh)) (fun m fin => P m ∧ fin = ds.map .sh)) (h : ∀ m, P m → Q m.res ρ) : Wp (callR cx f (ds.map .val) src ρ) Q := by
  subst hsrc
  match ds, hl with
  | [], _ =>
    refine wp_call (ms := []) ?_ ?_ (by simp [srcOk, List.range_succ]) hr ?_
    · simp [argsOf, R.arg, List.range_succ]
    · simp [ownsOf, List.range_succ]
    · rintro m fin ⟨pm, rfl⟩
      exact ⟨rfl, by simpa [ownsOf, List.range_succ, backOf] using h m pm⟩
  | [d1], _ =>
    refine wp_call (ms := [.sh d1]) ?_ ?_ (by simp [srcOk, List.range_succ]) hr ?_
    · simp [argsOf, R.arg, List.range_succ]
    · simp [ownsOf, List.range_succ]
    · rintro m fin ⟨pm, rfl⟩
      exact ⟨rfl, by simpa [ownsOf, List.range_succ, backOf] using h m pm⟩
  | [d1, d2], _ =>
    refine wp_call (ms := [.sh d1, .sh d2]) ?_ ?_ (by simp [srcOk, List.range_succ]) hr ?_
    · simp [argsOf, R.arg, List.range_succ]
    · simp [ownsOf, List.range_succ]
    · rintro m fin ⟨pm, rfl⟩
      exact ⟨rfl, by simpa [ownsOf, List.range_succ, backOf] using h m pm⟩
  | [d1, d2, d3], _ =>
    refine wp_call (ms := [.sh d1, .sh d2, .sh d3]) ?_ ?_ (by simp [srcOk, List.range_succ]) hr ?_
    · simp [argsOf, R.arg, List.range_succ]
    · simp [ownsOf, List.range_succ]
    · rintro m fin ⟨pm, rfl⟩
      exact ⟨rfl, by simpa [ownsOf, List.range_succ, backOf] using h m pm⟩
  | [d1, d2, d3, d4], _ =>
    refine wp_call (ms := [.sh d1, .sh d2, .sh d3, .sh d4]) ?_ ?_ (by simp [srcOk, List.range_succ]) hr ?_
    · simp [argsOf, R.arg, List.range_succ]
    · simp [ownsOf, List.range_succ]
    · rintro m fin ⟨pm, rfl⟩
      exact ⟨rfl, by simpa [ownsOf, List.range_succ, backOf] using h m pm⟩
@[simp] theorem res_sh' (d : D) : M.res (.sh d) = .val d := rfl
@[simp] theorem res_ol' (p : Bool) (d : List D) : M.res (.ol p d) = .new d := rfl
/-- a standing of family B -/
structure StateB (r : Int) (n : Nat) (w : Nat) (d : D) : Prop where
  ex : ∃ hs ls : List D, d = .tuple [.tuple hs, .tuple ls] ∧ hs.length = w ∧ ls.length = n ∧ (∀ x ∈ hs, ∃ a : Int, x = .int a ∧ 0 ≤ a ∧ a < r) ∧ ∀ x ∈ ls, x = .none ∨ ∃ a : Int, x = .int a ∧ 0 ≤ a ∧ a < w
def memT (pl : D) : D → Bool
  | .tuple (a :: b :: _) => memD pl [a, b]
  | _ => false
def nearF (pl : D) : D → Option D
  | .tuple [i, g] => if memT pl g then some i else none
  | _ => none
def barF (bars : List D) (w g : D) : Option D := if memD (.tuple [w, g]) bars then none else some (.tuple [w, g])
def possW (gates bars : List D) : D → List D
  | .tuple [w, pl] => ((enumD 0 gates).filterMap (nearF pl)).filterMap (barF bars w)
  | _ => []
/-- the moves that are possible -/
def possL (gates bars hs : List D) : List D := ((enumD 0 hs).map (possW gates bars)).flatten
theorem enumD_len' : ∀ (xs : List D) (k : Nat), (enumD k xs).length = xs.length
  | [], _ => rfl
  | x :: xs, k => by simp [enumD, enumD_len' xs (k + 1)]
theorem enumD_get' : ∀ {xs : List D} {k i : Nat} {d : D}, (enumD k xs)[i]? = some d → ∃ e, xs[i]? = some e ∧ d = .tuple [.int ((k + i : Nat) : Int), e]
  | [], _, _, _, h => by simp [enumD] at h
  | x :: xs, k, 0, d, h => by
    simp [enumD] at h
    exact ⟨x, rfl, h.symm⟩
  | x :: xs, k, i + 1, d, h => by
    obtain ⟨e, h1, h2⟩ := enumD_get' (xs := xs) (k := k + 1) (i := i) (by simpa [enumD] using h)
    exact ⟨e, by simpa using h1, by rw [h2, Nat.add_right_comm, Nat.add_assoc k i 1]⟩
theorem possW_len (gates bars : List D) (d : D) : (possW gates bars d).length ≤ gates.length := by
  unfold possW
  split
  · refine Nat.le_trans (List.length_filterMap_le _ _) (Nat.le_trans (List.length_filterMap_le _ _) ?_)
    rw [enumD_len']
    exact Nat.le_refl _
  · exact Nat.zero_le _
def accP (gates bars hs : List D) (i : Nat) : List D := (((enumD 0 hs).take i).map (possW gates bars)).flatten
theorem accP_succ {gates bars hs : List D} {i : Nat} {d : D} (h : (enumD 0 hs)[i]? = some d) : accP gates bars hs (i + 1) = accP gates bars hs i ++ possW gates bars d := by
  unfold accP
  rw [List.take_add_one, h, List.map_append, List.flatten_append]
  simp
theorem accP_all (gates bars hs : List D) : accP gates bars hs (enumD 0 hs).length = possL gates bars hs := by
  unfold accP
  rw [List.take_length]
  rfl
theorem cut_two (a b c : D) : cutL [a, b, c] none (some 2) = [a, b] := rfl
theorem possible_specB {k f : Nat} (hf : prog[f]? = some B_possible) {r : Int} {gates bars hs ls : List D} (gl : gates.length ≤ 24) (hg : ∀ x ∈ gates, GateB r x) (hb : PyData.plainAll bars = true) (hl : hs.length ≤ 5) (hh : ∀ x ∈ hs, ∃ a : Int, x = .int a ∧ 0 ≤ a ∧ a < r) :
    Ret (run prog fuel (k + 1) f ([.tuple [.int r, .tuple gates, .tuple bars], .tuple [.tuple hs, .tuple ls]].map .sh)) (fun m fin => m = .ol false (possL gates bars hs) ∧ fin = [.tuple [.int r, .tuple gates, .tuple bars], .tuple [.tuple hs, .tuple ls]].map .sh) := by
  refine ret_run (fd := B_possible) hf rfl (Nat.le_of_ble_eq_true rfl) rfl ?_
  simp [B_possible]
  refine wp_forL (fun i ρ => ∃ x3 x4 x5, ρ = [some (.sh (.tuple [.int r, .tuple gates, .tuple bars])), some (.sh (.tuple [.tuple hs, .tuple ls])), some (.ol false (accP gates bars hs i)), x3, x4, x5, none, none] ∧ (accP gates bars hs i).length ≤ 24 * i ∧ Lo x3 ∧ Lo x4 ∧ Lo x5)
    ⟨none, none, none, by simp [accP], by simp [accP], .inl rfl, .inl rfl, .inl rfl⟩ ?_ ?_
  · rintro i d ρ hd ⟨x3, x4, x5, rfl, b1, l3, l4, l5⟩
    have hi : i < hs.length := by have := (List.getElem?_eq_some_iff.mp hd).1; rwa [enumD_len'] at this
    obtain ⟨pl, e1, rfl⟩ := enumD_get' hd
    rw [Nat.zero_add] at hd
    rw [Nat.zero_add]
    obtain ⟨p, rfl, p0, p1⟩ := hh pl (List.mem_of_getElem? e1)
    simp [l3.free, l4.free]
    refine wp_pure (nearF (.int p)) rfl (by rw [enumD_len']; exact Nat.le_trans gl (by decide)) (fun x hx => ?_) ?_
    · obtain ⟨j, hj⟩ := List.mem_iff_getElem?.mp hx
      obtain ⟨g, e2, rfl⟩ := enumD_get' hj
      obtain ⟨a, b, c, rfl, _⟩ := hg g (List.mem_of_getElem? e2)
      simp [wipeE, Tg.vars, Tg.varss, cut_two]
      have e3 : opCmp .isin (.int p) (.tuple [.int a, .int b]) = some (memD (.int p) [.int a, .int b]) := rfl
      rw [e3]
      simp [nearF, memT, wipeE, Tg.vars, Tg.varss]
      exact wpI_of (fun h => if_pos h) fun h => if_neg (by rw [h]; decide)
    · simp [l5.free]
      have ln : ((enumD 0 gates).filterMap (nearF (.int p))).length ≤ 24 := Nat.le_trans (List.length_filterMap_le _ _) (by rw [enumD_len']; exact gl)
      have isI : ∀ x ∈ (enumD 0 gates).filterMap (nearF (.int p)), ∃ g : Int, x = .int g := fun x hx => by
        obtain ⟨y, hy, ey⟩ := List.mem_filterMap.mp hx
        obtain ⟨j, hj⟩ := List.mem_iff_getElem?.mp hy
        obtain ⟨g, e2, rfl⟩ := enumD_get' hj
        simp only [nearF] at ey
        split at ey
        · cases ey; exact ⟨_, rfl⟩
        · cases ey
      refine wp_pure (barF bars (.int i)) rfl (Nat.le_trans ln (by decide)) (fun x hx => ?_) ?_
      · obtain ⟨g, rfl⟩ := isI x hx
        simp [wipeE, Tg.vars]
        have e3 : opCmp .notin (.tuple [.int i, .int g]) (.tuple bars) = some (!memD (.tuple [.int i, .int g]) bars) := by
          show (gd (okEq (.tuple [.int i, .int g]) && PyData.plainAll bars) (memD (.tuple [.int i, .int g]) bars)).map not = _
          rw [hb, show okEq (.tuple [.int i, .int g]) = true from rfl]
          rfl
        rw [e3]
        simp [barF, wipeE, Tg.vars]
        cases h : memD (.tuple [.int i, .int g]) bars <;> simp
      · have lw := possW_len gates bars (.tuple [.int i, .int p])
        have ep : possW gates bars (.tuple [.int i, .int p]) = ((enumD 0 gates).filterMap (nearF (.int p))).filterMap (barF bars (.int i)) := rfl
        rw [← ep]
        have tk := accP_succ (gates := gates) (bars := bars) hd
        simp
        refine ⟨by omega, ?_⟩
        refine ⟨_, _, _, by rw [tk], ?_, .sh _, .sh _, .sh _⟩
        rw [tk, List.length_append]
        omega
  · rintro ρ ⟨x3, x4, x5, rfl, b1, l3, l4, l5⟩
    rw [accP_all]
    simp
end MI
namespace MI
open PySem
variable {prog : List Fd} {fuel : Nat}
theorem memD_ints {p a b : Int} (h : memD (.int p) [.int a, .int b] = true) : p = a ∨ p = b := by
  simp [memD, PyData.eqv] at h
  rcases h with h | h
  · exact .inl h.symm
  · exact .inr h.symm
theorem poss_mem {r : Int} {gates bars hs : List D} (hg : ∀ x ∈ gates, GateB r x) (hh : ∀ x ∈ hs, ∃ a : Int, x = .int a ∧ 0 ≤ a ∧ a < r) {x : D} (hx : x ∈ possL gates bars hs) :
    ∃ (w g : Nat) (p a b c : Int), x = .tuple [.int w, .int g] ∧ hs[w]? = some (.int p) ∧ gates[g]? = some (.tuple [.int a, .int b, .int c]) ∧ (p = a ∨ p = b) ∧ memD x bars = false := by
  obtain ⟨l, hl, hx⟩ := List.mem_flatten.mp hx
  obtain ⟨d, hd, rfl⟩ := List.mem_map.mp hl
  obtain ⟨w, hw⟩ := List.mem_iff_getElem?.mp hd
  obtain ⟨pl, e1, rfl⟩ := enumD_get' hw
  obtain ⟨p, rfl, p0, p1⟩ := hh pl (List.mem_of_getElem? e1)
  rw [Nat.zero_add] at hx
  unfold possW at hx
  obtain ⟨y, hy, ey⟩ := List.mem_filterMap.mp hx
  obtain ⟨z, hz, ez⟩ := List.mem_filterMap.mp hy
  obtain ⟨g, hg2⟩ := List.mem_iff_getElem?.mp hz
  obtain ⟨gt, e2, rfl⟩ := enumD_get' hg2
  obtain ⟨a, b, c, rfl, _⟩ := hg gt (List.mem_of_getElem? e2)
  rw [Nat.zero_add] at ez
  simp only [nearF] at ez
  split at ez
  · rename_i hm
    cases ez
    simp only [barF] at ey
    split at ey
    · cases ey
    · rename_i hb
      cases ey
      exact ⟨w, g, p, a, b, c, rfl, e1, e2, memD_ints hm, by simpa using hb⟩
  · cases ez
theorem poss_len (gates bars hs : List D) : (possL gates bars hs).length ≤ gates.length * hs.length := by
  have key : ∀ xs : List D, ((xs.map (possW gates bars)).flatten).length ≤ gates.length * xs.length := by
    intro xs
    induction xs with
    | nil => simp
    | cons x xs ih =>
      have := possW_len gates bars x
      rw [List.map_cons, List.flatten_cons, List.length_append, List.length_cons, Nat.mul_succ]
      omega
  have := key (enumD 0 hs)
  rw [enumD_len'] at this
  exact this
theorem at_nat {xs : List D} {i : Nat} {d : D} (h : xs[i]? = some d) : atD xs i = some d := by
  have hi : i < xs.length := (List.getElem?_eq_some_iff.mp h).1
  refine at_lt (by omega) (by omega) ?_
  simpa using h
theorem lt_nat {xs : List D} {i : Nat} {d : D} (h : xs[i]? = some d) : i < xs.length := (List.getElem?_eq_some_iff.mp h).1
theorem moved_specB {k f : Nat} (hf : prog[f]? = some B_moved) {r p a b c : Int} {gates hs ls : List D} {bars : D} {w g : Nat} (hw : hs[w]? = some (.int p)) (hg : gates[g]? = some (.tuple [.int a, .int b, .int c])) (hl : ls.length = gates.length) :
    Ret (run prog fuel (k + 1) f ([.tuple [.int r, .tuple gates, bars], .tuple [.tuple hs, .tuple ls], .int w, .int g].map .sh)) (fun m fin => m = .sh (.tuple [.tuple (hs.set w (.int (a + b - p))), .tuple (ls.set g (.int w))]) ∧ fin = [.tuple [.int r, .tuple gates, bars], .tuple [.tuple hs, .tuple ls], .int w, .int g].map .sh) := by
  refine ret_run (fd := B_moved) hf rfl (Nat.le_of_ble_eq_true rfl) rfl ?_
  have h1 := lt_nat hw
  have h2 := lt_nat hg
  simp [B_moved, at_nat hw, at_nat hg]
  rw [ix_ok (by omega) (by omega)]
  simp
  rw [ix_ok (by omega) (by omega)]
  simp
theorem played_specB {k f idr im ip : Nat} (hf : prog[f]? = some (B_played idr im ip)) (hd : prog[idr]? = some B_draw) (hm : prog[im]? = some B_moved) (hp : prog[ip]? = some B_possible) (cells : List Int) {at_ g0 r most : Int} {gates bars hs ls : List D} {w : Nat} (h3 : 0 ≤ at_) (h4 : at_ + 200 < 1000000) (h5 : 0 ≤ g0) (m0 : 0 ≤ most) (m1 : most ≤ 80)
    (gl : gates.length ≤ 24) (hg : ∀ x ∈ gates, GateB r x) (hb : PyData.plainAll bars = true) (w1 : w ≤ 5) (S : StateB r gates.length w (.tuple [.tuple hs, .tuple ls])) :
    Ret (run prog fuel (k + 2) f (.ol true (pen cells at_ g0) :: ([.tuple [.int r, .tuple gates, .tuple bars], .tuple [.tuple hs, .tuple ls], .int most] : List D).map .sh)) (PenQ cells at_ (1 + most) (fun m => ∃ d, m = .sh d ∧ StateB r gates.length w d) (([.tuple [.int r, .tuple gates, .tuple bars], .tuple [.tuple hs, .tuple ls], .int most] : List D).map .sh)) := by
  refine ret_run (fd := B_played idr im ip) hf rfl (Nat.le_of_ble_eq_true rfl) rfl ?_
  simp [B_played]
  refine w_drawB hd rfl (by omega) (by omega) h3 (by omega) h5 fun n a1 g1 u1 u2 u3 u4 u5 => ?_
  simp
  refine ⟨small_of u1 (by omega), ?_⟩
  refine wp_forL (fun i ρ => ∃ a g d x4 x5 x6 x7, ρ = [some (.ol true (pen cells a g)), some (.sh (.tuple [.int r, .tuple gates, .tuple bars])), some (.sh d), some (.sh (.int most)), x4, x5, x6, x7] ∧ a1 ≤ a ∧ a ≤ a1 + i ∧ 0 ≤ g ∧ StateB r gates.length w d ∧ Lo x4 ∧ (Lo x5 ∨ ∃ l, x5 = some (.ol false l)) ∧ Lo x6 ∧ Lo x7)
    ⟨a1, g1, _, none, none, none, none, rfl, by omega, by omega, u5, S, .inl rfl, .inl (.inl rfl), .inl rfl, .inl rfl⟩ ?_ ?_
  · rintro i d ρ hd' ⟨a, g, st, x4, x5, x6, x7, rfl, b1, b2, b3, S, l4, l5, l6, l7⟩
    obtain ⟨hi, rfl⟩ := rngD_get hd'
    have f5 : ∀ ρ : Env, free (x5 :: ρ) 0 = true := fun ρ => by
      rcases l5 with l5 | ⟨l, rfl⟩
      · exact l5.free ρ
      · simp
    obtain ⟨hs, ls, rfl, e1, e2, hh, hl⟩ := id S.ex
    simp [l4.free]
    refine call_shP (ds := [.tuple [.int r, .tuple gates, .tuple bars], .tuple [.tuple hs, .tuple ls]]) rfl (by simp) (possible_specB (k := k) hp gl hg hb (by omega) hh) fun m em => ?_
    subst em
    simp [f5]
    refine wpI_of (fun hne => ?_) fun _ => ?_
    · generalize hP : possL gates bars hs = ps at hne
      have hps : ps ≠ [] := fun z => by rw [z] at hne; cases hne
      have lp := List.length_pos_iff.mpr hps
      have ub : ps.length ≤ 200 := by
        rw [← hP]
        have q1 := poss_len gates bars hs
        have q2 : gates.length * hs.length ≤ 24 * 5 := Nat.mul_le_mul gl (by omega)
        omega
      refine w_drawB hd rfl (by omega) (by omega) (by omega) (by omega) b3 fun v a2 g2 z1 z2 z3 z4 z5 => ?_
      simp
      refine wpO_at z1 z2 fun x hx => ?_
      rw [← hP] at hx
      obtain ⟨wi, gi, p, ga, gb, gc, rfl, q1, q2, q3, q4⟩ := poss_mem hg hh hx
      simp [l6.free, l7.free]
      refine call_sh (ds := [.tuple [.int r, .tuple gates, .tuple bars], .tuple [.tuple hs, .tuple ls], .int wi, .int gi]) rfl (by simp) (moved_specB (k := k) hm q1 q2 e2) ?_
      simp
      obtain ⟨a', b', c', eg, g0, g1, g2', g3, g4, g5⟩ := hg _ (List.mem_of_getElem? q2)
      cases eg
      have lw := lt_nat q1
      refine ⟨a2, g2, _, _, _, _, _, rfl, by omega, by omega, z5, ⟨_, _, rfl, by rw [List.length_set]; exact e1, by rw [List.length_set]; exact e2, set_all (P := fun x => ∃ a : Int, x = .int a ∧ 0 ≤ a ∧ a < r) hh ⟨_, rfl, by omega, by omega⟩, set_all (P := fun x => x = .none ∨ ∃ a : Int, x = .int a ∧ 0 ≤ a ∧ a < w) hl (.inr ⟨wi, rfl, by omega, by omega⟩)⟩, .sh _, .inr ⟨_, rfl⟩, .sh _, .sh _⟩
    · exact ⟨a, g, _, _, _, _, _, rfl, by omega, by omega, b3, S, .sh _, .inr ⟨_, rfl⟩, l6, l7⟩
  · rintro ρ ⟨a, g, st, x4, x5, x6, x7, rfl, b1, b2, b3, S, l4, l5, l6, l7⟩
    rw [rngD_len] at b2
    simp
    exact penq (by omega) (by omega) b3 ⟨_, rfl, S⟩
end MI
namespace MI
open PySem
variable {prog : List Fd} {fuel : Nat}
def LordB (w : Nat) (x : D) : Prop := x = .none ∨ ∃ a : Int, x = .int a ∧ 0 ≤ a ∧ a < w
theorem rep_one (v : D) : ∀ n : Nat, (List.replicate n [v]).flatten = List.replicate n v
  | 0 => rfl
  | n + 1 => by rw [List.replicate_succ, List.flatten_cons, rep_one v n]; rfl
theorem mul_l (v : D) (n : Nat) (hn : n ≤ 1000) : opBin .mul (.list [v]) (.int n) = some (.new (List.replicate n v)) := by
  show opMul (.list [v]) (.int n) = _
  unfold opMul
  have h1 : ((n : Int).natAbs < 2 ^ 62) := Nat.lt_of_lt_of_le (show (n : Int).natAbs < 1001 by omega) (by decide)
  have h2 : [v].length * (n : Int).toNat ≤ Lim := by show 1 * (n : Int).toNat ≤ 16777216; omega
  have e : (List.replicate (n : Int).toNat [v]).flatten = List.replicate n v := by
    rw [Int.toNat_natCast]
    exact rep_one v n
  simp only [decide_eq_true h1, decide_eq_true h2, e]
  rfl
theorem standing_specB {k f idr ipl im ip : Nat} (hf : prog[f]? = some (B_standing idr ipl)) (hd : prog[idr]? = some B_draw) (hpl : prog[ipl]? = some (B_played idr im ip)) (hm : prog[im]? = some B_moved) (hp : prog[ip]? = some B_possible) (cells : List Int) {at_ g r : Int} {gates bars : List D} {w : Nat} (h3 : 0 ≤ at_) (h4 : at_ + 300 < 1000000) (h5 : 0 ≤ g) (r0 : 1 ≤ r) (r1 : r ≤ 12)
    (gl : gates.length ≤ 24) (hg : ∀ x ∈ gates, GateB r x) (hb : PyData.plainAll bars = true) (w0 : 1 ≤ w) (w1 : w ≤ 5) :
    Ret (run prog fuel (k + 3) f (.ol true (pen cells at_ g) :: ([.tuple [.int r, .tuple gates, .tuple bars], .int w] : List D).map .sh)) (PenQ cells at_ 60 (fun m => ∃ d, m = .sh d ∧ StateB r gates.length w d) (([.tuple [.int r, .tuple gates, .tuple bars], .int w] : List D).map .sh)) := by
  refine ret_run (fd := B_standing idr ipl) hf rfl (Nat.le_of_ble_eq_true rfl) rfl ?_
  simp [B_standing]
  refine ⟨small_of (by omega) (by omega), rfl, ?_⟩
  refine wp_compL (fun j acc ρ => ∃ a3 g3 x8, ρ = [some (.ol true (pen cells a3 g3)), some (.sh (.tuple [.int r, .tuple gates, .tuple bars])), some (.sh (.int w)), none, none, none, none, none, x8] ∧ at_ ≤ a3 ∧ a3 ≤ at_ + j ∧ 0 ≤ g3 ∧ acc.length = j ∧ ∀ x ∈ acc, ∃ a : Int, x = .int a ∧ 0 ≤ a ∧ a < r)
    ⟨at_, g, none, rfl, by omega, by omega, h5, rfl, by simp⟩ ?_ ?_
  · rintro j d acc ρ hd' ⟨a3, g3, x8, rfl, c1, c2, c3, c4, c5⟩
    obtain ⟨hj, rfl⟩ := rngD_get hd'
    simp [wipeE, Tg.vars]
    have hj' : j < w := by simpa using hj
    refine w_drawB hd rfl (by omega) (by omega) (by omega) (by omega) c3 fun v a4 g4 y1 y2 y3 y4 y5 => ?_
    simp
    have l5 : acc.length < 16777216 := by omega
    refine ⟨l5, a4, g4, ⟨_, rfl⟩, by omega, by omega, y5, by simp [c4], ?_⟩
    refine app_all (P := fun x => ∃ a : Int, x = .int a ∧ 0 ≤ a ∧ a < r) c5 fun x hx => ?_
    rw [List.mem_singleton.mp hx]
    exact ⟨v, rfl, y1, y2⟩
  · rintro hs ρ ⟨a3, g3, x8, rfl, c1, c2, c3, c4, c5⟩
    rw [rngD_len] at c2 c4
    simp [backE, Tg.vars]
    refine w_drawB hd rfl (by omega) (by omega) (by omega) (by omega) c3 fun kind a4 g4 y1 y2 y3 y4 y5 => ?_
    simp
    refine wp_pure (fun _ => some .none) rfl (Nat.le_trans gl (by decide)) (fun x hx => ?_) ?_
    · simp [wipeE, Tg.vars]
    · have e0 : gates.filterMap (fun _ => some (PyData.none)) = List.replicate gates.length .none := by
        have : ∀ xs : List D, xs.filterMap (fun _ => some (PyData.none)) = List.replicate xs.length .none := by
          intro xs
          induction xs with
          | nil => rfl
          | cons x xs ih => simp [List.replicate_succ, ih]
        exact this gates
      rw [e0]
      have fin : ∀ {ls : List D} {a2 g2 : Int}, ls.length = gates.length → (∀ x ∈ ls, LordB w x) → at_ ≤ a2 → a2 ≤ at_ + 60 → 0 ≤ g2 → PenQ cells at_ 60 (fun m => ∃ d, m = .sh d ∧ StateB r gates.length w d) [.sh (.tuple [.int r, .tuple gates, .tuple bars]), .sh (.int w)] (.sh (.tuple [.tuple hs, .tuple ls])) [.ol true (pen cells a2 g2), .sh (.tuple [.int r, .tuple gates, .tuple bars]), .sh (.int w)] := by
        intro ls a2 g2 hl hall b1 b2 b3
        exact penq b1 b2 b3 ⟨_, rfl, hs, ls, rfl, c4, hl, c5, hall⟩
      have nn : ∀ x ∈ List.replicate gates.length PyData.none, LordB w x := fun x hx => .inl (List.eq_of_mem_replicate hx)
      have hk : kind = 0 ∨ kind = 1 ∨ kind = 2 ∨ kind = 3 := by omega
      rcases hk with rfl | rfl | rfl | rfl
      · simp
        exact fin (by simp) nn (by omega) (by omega) y5
      · simp
        refine w_drawB hd rfl (by omega) (by omega) (by omega) (by omega) y5 fun v a5 g5 z1 z2 z3 z4 z5 => ?_
        simp
        rw [mul_l (.int v) gates.length (by omega)]
        simp
        exact fin (by simp) (fun x hx => .inr ⟨v, List.eq_of_mem_replicate hx, z1, z2⟩) (by omega) (by omega) z5
      · simp
        refine ⟨rfl, ?_⟩
        refine wp_compL (fun j acc ρ => ∃ a6 g6 x7, ρ = [some (.ol true (pen cells a6 g6)), some (.sh (.tuple [.int r, .tuple gates, .tuple bars])), some (.sh (.int w)), some (.sh (.tuple hs)), some (.sh (.int 2)), some (.ol false (List.replicate gates.length .none)), none, x7, none] ∧ a4 ≤ a6 ∧ a6 ≤ a4 + j ∧ 0 ≤ g6 ∧ acc.length = j ∧ ∀ x ∈ acc, LordB w x)
          ⟨a4, g4, none, rfl, by omega, by omega, y5, rfl, by simp⟩ ?_ ?_
        · rintro j d acc ρ hd' ⟨a6, g6, x7, rfl, c1', c2', c3', c4', c5'⟩
          have hj : j < gates.length := (List.getElem?_eq_some_iff.mp hd').1
          have sm : small62 (w : Int) = true := small_of (by omega) (by omega)
          have lw : w ≤ 16777216 := by omega
          have l3 : 1 + w ≤ 16777216 := by omega
          simp [wipeE, Tg.vars, sm, rngD_len, lw]
          refine ⟨by omega, ?_⟩
          refine w_drawB hd rfl (by omega) (by omega) (by omega) (by omega) c3' fun v2 a7 g7 s1 s2 s3 s4 s5 => ?_
          simp
          refine wpO_at s1 (by simp [rngD_len]; omega) fun x hx => ?_
          have l5 : acc.length < 16777216 := by omega
          refine ⟨l5, a7, g7, ⟨_, rfl⟩, by omega, by omega, s5, by simp [c4'], ?_⟩
          refine app_all c5' fun y hy => ?_
          rw [List.mem_singleton.mp hy]
          rcases List.mem_cons.mp hx with rfl | hx
          · exact .inl rfl
          · exact .inr (rng_mem hx)
        · rintro acc ρ ⟨a6, g6, x7, rfl, c1', c2', c3', c4', c5'⟩
          simp [backE, Tg.vars]
          exact fin c4' c5' (by omega) (by omega) c3'
      · simp
        refine call_pen (ds := [.tuple [.int r, .tuple gates, .tuple bars], .tuple [.tuple hs, .tuple (List.replicate gates.length .none)], .int 30]) (n := 31) rfl rfl (by simp) (played_specB (prog := prog) (fuel := fuel) (k := k) (f := ipl) (idr := idr) (im := im) (ip := ip) (at_ := a4) (g0 := g4) (r := r) (most := 30) (gates := gates) (bars := bars) (hs := hs) (ls := List.replicate gates.length .none) (w := w) hpl hd hm hp cells (by omega) (by omega) y5 (by omega) (by omega) gl hg hb w1 ⟨_, _, rfl, c4, by simp, c5, nn⟩) fun m a5 g5 ⟨st, e5, S⟩ z1 z2 z3 => ?_
        subst e5
        simp
        exact penq (by omega) (by omega) z3 ⟨_, rfl, S⟩
theorem opened_specB {k f idr : Nat} (hf : prog[f]? = some (B_opened idr)) (hd : prog[idr]? = some B_draw) (cells : List Int) {at_ g r : Int} {hs ls : List D} {n w : Nat} (h3 : 0 ≤ at_) (h4 : at_ + 50 < 1000000) (h5 : 0 ≤ g) (nl : n ≤ 24) (S : StateB r n w (.tuple [.tuple hs, .tuple ls])) :
    Ret (run prog fuel (k + 2) f (.ol true (pen cells at_ g) :: ([.tuple [.tuple hs, .tuple ls]] : List D).map .sh)) (PenQ cells at_ 26 (fun m => ∃ d, m = .sh d ∧ HopeB r n w d) (([.tuple [.tuple hs, .tuple ls]] : List D).map .sh)) := by
  obtain ⟨hs', ls', eq, e1, e2, hh, hl⟩ := S.ex
  cases eq
  refine ret_run (fd := B_opened idr) hf rfl (Nat.le_of_ble_eq_true rfl) rfl ?_
  simp [B_opened]
  refine w_drawB hd rfl (by omega) (by omega) h3 (by omega) h5 fun v a1 g1 u1 u2 u3 u4 u5 => ?_
  simp [join_any]
  refine ⟨rfl, ?_⟩
  refine wp_compL (fun j acc ρ => ∃ a6 g6 x4, ρ = [some (.ol true (pen cells a6 g6)), some (.sh (.tuple [.tuple hs, .tuple ls])), some (.sh (.int (1 + v))), some (.sh (.str (Str.ofString "any"))), x4] ∧ a1 ≤ a6 ∧ a6 ≤ a1 + j ∧ 0 ≤ g6 ∧ acc.length = j ∧ ∀ x ∈ acc, OwnerB w x)
    ⟨a1, g1, none, rfl, by omega, by omega, u5, rfl, by simp⟩ ?_ ?_
  · rintro j d acc ρ hd' ⟨a6, g6, x4, rfl, c1', c2', c3', c4', c5'⟩
    have hj : j < ls.length := (List.getElem?_eq_some_iff.mp hd').1
    simp [wipeE, Tg.vars]
    refine w_drawB hd rfl (by omega) (by omega) (by omega) (by omega) c3' fun v2 a7 g7 s1 s2 s3 s4 s5 => ?_
    simp
    have l5 : acc.length < 16777216 := by omega
    refine wpI_of (fun _ => ?_) fun _ => ?_
    · refine ⟨l5, a7, g7, ⟨_, rfl⟩, by omega, by omega, s5, by simp [c4'], ?_⟩
      refine app_all c5' fun y hy => ?_
      rw [List.mem_singleton.mp hy]
      exact .inr (.inl rfl)
    · refine ⟨l5, a7, g7, ⟨_, rfl⟩, by omega, by omega, s5, by simp [c4'], ?_⟩
      refine app_all c5' fun y hy => ?_
      rw [List.mem_singleton.mp hy]
      rcases hl d (List.mem_of_getElem? hd') with h | h
      · exact .inl h
      · exact .inr (.inr h)
  · rintro acc ρ ⟨a6, g6, x4, rfl, c1', c2', c3', c4', c5'⟩
    simp [backE, Tg.vars]
    exact penq (by omega) (by omega) c3' ⟨_, rfl, hs, acc, rfl, e1, by omega, hh, c5'⟩
end MI
namespace MI
open PySem
/-! ### what the laws k01 .. k12, k80 .. k88 draw with -/
def A_price (i_draw : Nat) : Fd := ⟨1, 2, [.asg 1 (.bin .add (.int 1) (.call i_draw [.var 0, .bin .pow (.int 10) (.int 9)] [true, true] [.e 0, .e 1])), .ret (.idx (.lst [.int 1, .bin .add (.int 1) (.call i_draw [.var 0, .int 12] [true, true] [.e 0, .e 1]), .bin .pow (.int 10) (.int 9), .var 1]) (.call i_draw [.var 0, .int 4] [true, true] [.e 0, .e 1]))]⟩
def A_ends (i_draw : Nat) : Fd := ⟨4, 6, [.asg 4 (.call i_draw [.var 0, .var 2] [true, true] [.e 0, .e 1]), .asg 5 (.lst [.tup [.bin .mod (.var 3) (.bin .sub (.var 2) (.int 1)), .bin .add (.bin .mod (.var 3) (.bin .sub (.var 2) (.int 1))) (.int 1)], .tup [.bin .mod (.var 3) (.var 2), .bin .mod (.bin .add (.var 3) (.int 1)) (.var 2)], .tup [.int 0, .bin .add (.int 1) (.bin .mod (.var 3) (.bin .sub (.var 2) (.int 1)))]]), .asg 5 (.bin .add (.var 5) (.lst [.tup [.var 4, .idx (.lst [.bin .mod (.bin .add (.var 4) (.int 1)) (.var 2), .bin .add (.var 4) (.int 2)]) (.bi1 .int (.cmp .lt (.bin .add (.var 4) (.int 2)) (.var 2)))], .tup [.int 0, .int 1]])), .expr (.mu .append 5 [.tup [.var 4, .bin .mod (.bin .add (.bin .add (.var 4) (.int 1)) (.call i_draw [.var 0, .bin .sub (.var 2) (.int 1)] [true, true] [.e 0, .e 1])) (.var 2)]]), .ret (.tup [.bi1 .min (.idx (.var 5) (.var 1)), .bi1 .max (.idx (.var 5) (.var 1))])]⟩
def A_bars (i_draw : Nat) : Fd := ⟨2, 6, [.asg 2 (.idx (.lst [.int 0, .int 1, .int 4]) (.call i_draw [.var 0, .int 3] [true, true] [.e 0, .e 1])), .asg 3 (.lst []), .for (.name 4) (.rng [.int 5]) [.asg 3 (.bin .add (.var 3) (.comp (.tup [.var 4, .var 5]) (.name 5) (.rng [.var 1]) (some (.cmp .lt (.call i_draw [.var 0, .int 9] [true, true] [.e 0, .e 1]) (.var 2)))))], .ret (.bi1 .tuple (.var 3))]⟩
def A_web (i_bars : Nat) (i_draw : Nat) (i_ends : Nat) (i_price : Nat) : Fd := ⟨3, 8, [.asg 3 (.call i_draw [.var 0, .int 6] [true, true] [.e 0, .e 1]), .asg 4 (.idx (.lst [.var 1, .bin .add (.int 1) (.call i_draw [.var 0, .var 1] [true, true] [.e 0, .e 1]), .int 2]) (.call i_draw [.var 0, .int 3] [true, true] [.e 0, .e 1])), .asg 5 (.idx (.lst [.call i_draw [.var 0, .bin .add (.var 2) (.int 1)] [true, true] [.e 0, .e 1], .var 2, .bi2 .min (.var 4) (.var 2)]) (.call i_draw [.var 0, .int 3] [true, true] [.e 0, .e 1])), .asg 6 (.lst []), .for (.name 7) (.rng [.bin .mul (.var 5) (.bi1 .int (.cmp .gt (.var 4) (.int 1)))]) [.expr (.mu .append 6 [.bin .add (.call i_ends [.var 0, .var 3, .var 4, .var 7] [true, true, true, true] [.e 0, .e 1, .e 2, .e 3]) (.tup [.call i_price [.var 0] [true] [.e 0]])])], .ret (.tup [.var 4, .bi1 .tuple (.var 6), .call i_bars [.var 0, .bi1 .len (.var 6)] [true, false] [.e 0, .e 1]])]⟩
def A_standing (i_draw : Nat) : Fd := ⟨2, 10, [.asg 2 (.idx (.lst [.bin .add (.int 1) (.call i_draw [.var 0, .int 5] [true, true] [.e 0, .e 1]), .int 2, .int 5]) (.call i_draw [.var 0, .int 3] [true, true] [.e 0, .e 1])), .asg 3 (.bi1 .tuple (.comp (.call i_draw [.var 0, .idx (.var 1) (.int 0)] [true, true] [.e 0, .e 1]) (.name 9) (.rng [.var 2]) none)), .asg 4 (.call i_draw [.var 0, .int 5] [true, true] [.e 0, .e 1]), .asg 5 (.call i_draw [.var 0, .var 2] [true, true] [.e 0, .e 1]), .asg 6 (.lst []), .for (.name 7) (.seq (.idx (.var 1) (.int 1))) [.asg 8 (.lst [.non, .var 5, .call i_draw [.var 0, .var 2] [true, true] [.e 0, .e 1]]), .expr (.mu .append 6 [.idx (.var 8) (.idx (.lst [.int 0, .int 1, .int 2, .int 2, .call i_draw [.var 0, .int 3] [true, true] [.e 0, .e 1]]) (.var 4))])], .ret (.tup [.var 3, .bi1 .tuple (.var 6)])]⟩
variable {prog : List Fd} {fuel : Nat}
theorem w_drawA {k j f : Nat} {ρ : Env} {p : Bool} {cells : List Int} {at_ g many : Int} {Q : R → Env → Prop} (hf : prog[f]? = some f_law_draw) (hj : ρ.get j = some (.ol p (pen cells at_ g))) (h1 : 0 < many) (h2 : many < 1000000000000000000000000000000000000000000000000000000000000) (h3 : 0 ≤ at_) (h4 : at_ < 1000000) (h5 : 0 ≤ g)
    (h : ∀ v at2 g2, 0 ≤ v → v < many → at_ ≤ at2 → at2 ≤ at_ + 1 → 0 ≤ g2 → Q (.val (.int v)) (ρ.set j (some (.ol p (pen cells at2 g2))))) : Wp (callR ⟨run prog fuel (k + 1), fuel⟩ f [.own j, .val (.int many)] [.e 0, .e 1] ρ) Q :=
  call_pen (ds := [.int many]) (n := 1) (P := fun m => ∃ v, m = .sh (.int v) ∧ 0 ≤ v ∧ v < many) hj rfl (by simp) ((draw_spec hf cells h1 h2 h3 h4 h5).mono fun m fin ⟨v, a, g, e, v0, v1, a1, a2, g0, ef⟩ => ⟨a, g, ef, a1, a2, g0, v, e, v0, v1⟩) fun m at2 g2 ⟨v, e, v0, v1⟩ a1 a2 a3 => by subst e; exact h v at2 g2 v0 v1 a1 a2 a3
def A_pen : Fd := ⟨1, 1, [.ret (.lst [.bi1 .list (.sl (.var 0) none (some (.int 63))), .int 0, .int 0])]⟩
theorem w_penA {k i : Nat} {ns : List Int} {ρ : Env} {Q : R → Env → Prop} (hi : prog[i]? = some A_pen) (h : Q (.new (pen (ns.take 63) 0 0)) ρ) : Wp (callR ⟨run prog fuel (k + 1), fuel⟩ i [.sc ns] [.e 0] ρ) Q := by
  have spec : Ret (run prog fuel (k + 1) i [.sc ns]) (fun m fin => m = .ol false (pen (ns.take 63) 0 0) ∧ fin = [.sc ns]) := by
    refine ret_run (fd := A_pen) hi rfl (by decide) rfl ?_
    simp [A_pen]
  refine wp_call (ms := [.sc ns]) rfl (by simp [ownsOf]) (by simp [srcOk]) spec ?_
  rintro m fin ⟨rfl, rfl⟩
  exact ⟨rfl, by simpa [ownsOf, backOf] using h⟩
theorem price_specA {k f i : Nat} (hf : prog[f]? = some (A_price i)) (hd : prog[i]? = some f_law_draw) (cells : List Int) {at_ g : Int} (h3 : 0 ≤ at_) (h4 : at_ + 3 < 1000000) (h5 : 0 ≤ g) :
    Ret (run prog fuel (k + 2) f (.ol true (pen cells at_ g) :: ([] : List D).map .sh)) (PenQ cells at_ 3 (fun m => ∃ v, m = .sh (.int v) ∧ 1 ≤ v ∧ v ≤ 1000000000) (([] : List D).map .sh)) := by
  refine ret_run (fd := A_price i) hf rfl (Nat.le_of_ble_eq_true rfl) rfl ?_
  simp [A_price]
  refine w_drawA hd rfl (by decide) (by decide) h3 (by omega) h5 fun v1 a1 g1 u1 u2 u3 u4 u5 => ?_
  simp
  refine w_drawA hd rfl (by decide) (by decide) (by omega) (by omega) u5 fun v2 a2 g2 w1 w2 w3 w4 w5 => ?_
  simp
  refine w_drawA hd rfl (by decide) (by decide) (by omega) (by omega) w5 fun v3 a3 g3 x1 x2 x3 x4 x5 => ?_
  simp
  rcases at4 (a := .int 1) (b := .int (1 + v2)) (c := .int 1000000000) (d := .int (1 + v1)) x1 x2 with e | e | e | e <;> simp [e] <;> exact penq (by omega) (by omega) x5 ⟨_, rfl, by omega, by omega⟩
/-- a pair of rooms -/
def PairA (n : Int) (d : D) : Prop := ∃ a b, d = .tuple [.int a, .int b] ∧ 0 ≤ a ∧ a < n ∧ 0 ≤ b ∧ b < n
theorem ord_two (a b : Int) : okOrd [.int a, .int b] = true := by
  unfold okOrd
  simp [allAlike, isNone, W.alike, PyData.plainAll, PyData.plain, PyData.depthAll, PyData.depth]
theorem min_pair (a b : Int) : opB1 .min (.tuple [.int a, .int b]) = some (.val (.int (min a b))) := by
  show minD _ = _
  show gd (okOrd [.int a, .int b]) (R.val (W.minD (.int a) [.int b])) = _
  rw [ord_two, show W.minD (.int a) [PyData.int b] = .int (min a b) from W.minD_ints a [b]]
  rfl
theorem max_pair (a b : Int) : opB1 .max (.tuple [.int a, .int b]) = some (.val (.int (max a b))) := by
  show maxD _ = _
  show gd (okOrd [.int a, .int b]) (R.val (W.maxD (.int a) [.int b])) = _
  rw [ord_two, show W.maxD (.int a) [PyData.int b] = .int (max a b) from W.maxD_ints a [b]]
  rfl
theorem ends_specA {k f i : Nat} (hf : prog[f]? = some (A_ends i)) (hd : prog[i]? = some f_law_draw) (cells : List Int) {at_ g kind spots w : Int} (h3 : 0 ≤ at_) (h4 : at_ + 2 < 1000000) (h5 : 0 ≤ g) (k0 : 0 ≤ kind) (k1 : kind < 6) (s0 : 2 ≤ spots) (s1 : spots ≤ 12) (w0 : 0 ≤ w) :
    Ret (run prog fuel (k + 2) f (.ol true (pen cells at_ g) :: ([.int kind, .int spots, .int w] : List D).map .sh)) (PenQ cells at_ 2 (fun m => ∃ d, m = .sh d ∧ PairA spots d) (([.int kind, .int spots, .int w] : List D).map .sh)) := by
  refine ret_run (fd := A_ends i) hf rfl (Nat.le_of_ble_eq_true rfl) rfl ?_
  simp [A_ends]
  refine w_drawA hd rfl (by omega) (by omega) h3 (by omega) h5 fun v1 a1 g1 u1 u2 u3 u4 u5 => ?_
  simp
  have md : ∀ x : Int, 0 ≤ x % spots ∧ x % spots < spots := fun x => ⟨Int.emod_nonneg _ (by omega), Int.emod_lt_of_pos _ (by omega)⟩
  have md1 : ∀ x : Int, 0 ≤ x % (spots - 1) ∧ x % (spots - 1) < spots - 1 := fun x => ⟨Int.emod_nonneg _ (by omega), Int.emod_lt_of_pos _ (by omega)⟩
  refine ⟨by omega, by omega, by omega, by omega, ?_⟩
  have pick : ∃ c, atD [PyData.int ((v1 + 1) % spots), PyData.int (v1 + 2)] (if v1 + 2 < spots then 1 else 0) = some (.int c) ∧ 0 ≤ c ∧ c < spots := by
    split
    · exact ⟨v1 + 2, by simp, by omega, by omega⟩
    · exact ⟨(v1 + 1) % spots, by simp, (md _).1, (md _).2⟩
  obtain ⟨c, e, c0, c1⟩ := pick
  simp [e]
  refine w_drawA hd rfl (by omega) (by omega) (by omega) (by omega) u5 fun v2 a2 g2 x1 x2 x3 x4 x5 => ?_
  simp
  refine ⟨by omega, ?_⟩
  obtain ⟨d, ed, x, y, rfl, p1, p2, p3, p4⟩ := at6 (P := PairA spots) (xs := [.tuple [.int (w % (spots - 1)), .int (w % (spots - 1) + 1)], .tuple [.int (w % spots), .int ((w + 1) % spots)], .tuple [.int 0, .int (1 + w % (spots - 1))], .tuple [.int v1, .int c], .tuple [.int 0, .int 1], .tuple [.int v1, .int ((v1 + 1 + v2) % spots)]]) k0 (by simpa using k1) (by
    intro x hx
    have q1 := md1 w
    have q2 := md w
    have q3 := md (w + 1)
    have q4 := md (v1 + 1 + v2)
    simp at hx
    rcases hx with rfl | rfl | rfl | rfl | rfl | rfl
    · exact ⟨_, _, rfl, by omega, by omega, by omega, by omega⟩
    · exact ⟨_, _, rfl, by omega, by omega, by omega, by omega⟩
    · exact ⟨_, _, rfl, by omega, by omega, by omega, by omega⟩
    · exact ⟨_, _, rfl, by omega, by omega, by omega, by omega⟩
    · exact ⟨_, _, rfl, by omega, by omega, by omega, by omega⟩
    · exact ⟨_, _, rfl, by omega, by omega, by omega, by omega⟩)
  simp [ed, min_pair, max_pair]
  exact penq (by omega) (by omega) x5 ⟨_, rfl, _, _, rfl, by omega, by omega, by omega, by omega⟩
/-- bars: pairs of a walker and a gate -/
def BarsA (many : Int) (ds : List D) : Prop := ∀ d ∈ ds, ∃ a b, d = .tuple [.int a, .int b] ∧ 0 ≤ a ∧ a < 5 ∧ 0 ≤ b ∧ b < many
theorem bars_specA {k f i : Nat} (hf : prog[f]? = some (A_bars i)) (hd : prog[i]? = some f_law_draw) (cells : List Int) {at_ g many : Int} (h3 : 0 ≤ at_) (h4 : at_ + 1 + 5 * many < 1000000) (h5 : 0 ≤ g) (m0 : 0 ≤ many) (m1 : many ≤ 24) :
    Ret (run prog fuel (k + 2) f (.ol true (pen cells at_ g) :: ([.int many] : List D).map .sh)) (PenQ cells at_ (1 + 5 * many) (fun m => ∃ ds, m = .sh (.tuple ds) ∧ BarsA many ds ∧ ds.length ≤ 120) (([.int many] : List D).map .sh)) := by
  refine ret_run (fd := A_bars i) hf rfl (Nat.le_of_ble_eq_true rfl) rfl ?_
  simp [A_bars]
  refine w_drawA hd rfl (by omega) (by omega) h3 (by omega) h5 fun v1 a1 g1 u1 u2 u3 u4 u5 => ?_
  simp
  have hs : ∃ s : Int, atD [PyData.int 0, PyData.int 1, PyData.int 4] v1 = some (.int s) := by
    rcases at3' (a := .int 0) (b := .int 1) (c := .int 4) u1 u2 with e | e | e <;> exact ⟨_, e⟩
  obtain ⟨s, e⟩ := hs
  simp [e]
  refine ⟨by decide, ?_⟩
  refine wp_forL (fun i ρ => ∃ a2 g2 ds x4, ρ = [some (.ol true (pen cells a2 g2)), some (.sh (.int many)), some (.sh (.int s)), some (.ol false ds), x4, none] ∧ a1 ≤ a2 ∧ a2 ≤ a1 + i * many ∧ 0 ≤ g2 ∧ BarsA many ds ∧ ds.length ≤ 24 * i ∧ (x4 = none ∨ ∃ d, x4 = some (.sh d)))
    ⟨a1, g1, [], none, rfl, by omega, by omega, u5, by simp [BarsA], by simp, .inl rfl⟩ ?_ ?_
  · rintro i d ρ hd' ⟨a2, g2, ds, x4, rfl, b1, b2, b3, b4, b5, b6⟩
    obtain ⟨hi, rfl⟩ := rngD_get hd'
    have hi5 : i < 5 := hi
    have x4f : free [some (.ol true (pen cells a2 g2)), some (.sh (.int many)), some (.sh (.int s)), some (.ol false ds), x4, none] 4 = true := by
      rcases b6 with rfl | ⟨d, rfl⟩ <;> simp
    have bm : a2 + many ≤ at_ + 1 + 5 * many := by
      have : (i : Int) * many ≤ 4 * many := Int.mul_le_mul_of_nonneg_right (by omega) m0
      omega
    have bi : ((i : Int) + 1) * many = i * many + many := by rw [Int.add_mul, Int.one_mul]
    simp only [q_forF, put_name, wpO_gd, x4f, true_and]
    simp
    refine ⟨small_of m0 (by omega), rfl, ?_⟩
    refine wp_compL (fun j acc ρ => ∃ a3 g3 x5, ρ = [some (.ol true (pen cells a3 g3)), some (.sh (.int many)), some (.sh (.int s)), some (.ol false ds), some (.sh (.int (i : Int))), x5] ∧ a2 ≤ a3 ∧ a3 ≤ a2 + j ∧ 0 ≤ g3 ∧ BarsA many acc ∧ acc.length ≤ j) ⟨a2, g2, none, rfl, by omega, by omega, b3, by simp [BarsA], by simp⟩ ?_ ?_
    · rintro j d acc ρ hd' ⟨a3, g3, x5, rfl, c1, c2, c3, c4, c5⟩
      obtain ⟨hj, rfl⟩ := rngD_get hd'
      simp [wipeE, Tg.vars]
      refine w_drawA hd rfl (by omega) (by omega) (by omega) (by omega) c3 fun v2 a4 g4 x1 x2 x3 x4 x5 => ?_
      simp
      have l5 : acc.length < 16777216 := by omega
      have l6 : (acc ++ [PyData.tuple [PyData.int i, PyData.int j]]).length ≤ j + 1 := by rw [List.length_append]; exact Nat.succ_le_succ c5
      refine wpI_of (fun _ => ⟨l5, a4, g4, ⟨_, rfl⟩, by omega, by omega, x5, ?_, l6⟩) fun _ => ⟨a4, g4, ⟨_, rfl⟩, by omega, by omega, x5, c4, by omega⟩
      · intro d hd
        rcases List.mem_append.mp hd with h | h
        · exact c4 d h
        · simp at h
          exact ⟨_, _, h, by omega, by omega, by omega, by omega⟩
    · rintro acc ρ ⟨a3, g3, x5, rfl, c1, c2, c3, c4, c5⟩
      have hm : (rngD 0 many.toNat 1).length = many.toNat := rngD_len
      rw [hm] at c2 c5
      simp [backE, Tg.vars]
      refine ⟨by omega, a3, g3, _, _, rfl, by omega, by rw [Int.natCast_add, Int.natCast_one, bi]; omega, c3, ?_, by simp; omega, .inr ⟨_, rfl⟩⟩
      intro d hd
      rcases List.mem_append.mp hd with h | h
      · exact b4 d h
      · exact c4 d h
  · rintro ρ ⟨a2, g2, ds, x4, rfl, b1, b2, b3, b4, b5, b6⟩
    have hm : (rngD 0 5 1).length = 5 := rfl
    rw [hm] at b2 b5
    simp
    exact penq (by omega) (by omega) b3 ⟨ds, rfl, b4, by omega⟩
/-! ### webs and standings, as plain things -/
theorem exL {α β : Type} {f : β → α} {P : β → Prop} : ∀ {xs : List α}, (∀ x ∈ xs, ∃ y, x = f y ∧ P y) → ∃ ys : List β, xs = ys.map f ∧ ∀ y ∈ ys, P y
  | [], _ => ⟨[], rfl, fun _ h => by cases h⟩
  | x :: xs, h => by
    obtain ⟨y, rfl, p⟩ := h x List.mem_cons_self
    obtain ⟨ys, rfl, q⟩ := exL (xs := xs) fun z hz => h z (List.mem_cons_of_mem _ hz)
    exact ⟨y :: ys, rfl, fun z hz => by
      rcases List.mem_cons.mp hz with rfl | hz
      · exact p
      · exact q z hz⟩
def gateD (g : Int × Int × Int) : D := .tuple [.int g.1, .int g.2.1, .int g.2.2]
def GateA (r : Int) (g : Int × Int × Int) : Prop := 0 ≤ g.1 ∧ g.1 < r ∧ 0 ≤ g.2.1 ∧ g.2.1 < r ∧ 1 ≤ g.2.2 ∧ g.2.2 ≤ 1000000000
def GateT (r : Int) (x : D) : Prop := ∃ g, x = gateD g ∧ GateA r g
def webD (r : Int) (gs : List (Int × Int × Int)) (bars : List D) : D := .tuple [.int r, .tuple (gs.map gateD), .tuple bars]
structure WebA (mr : Int) (mg : Nat) (d : D) : Prop where
  ex : ∃ (r : Int) (gs : List (Int × Int × Int)) (bars : List D), d = webD r gs bars ∧ 1 ≤ r ∧ r ≤ mr ∧ gs.length ≤ mg ∧ (∀ g ∈ gs, GateA r g) ∧ BarsA gs.length bars ∧ bars.length ≤ 120
def ownD : Option Nat → D
  | none => .none
  | some n => .int n
def standD (hs : List Int) (ls : List (Option Nat)) : D := .tuple [.tuple (hs.map .int), .tuple (ls.map ownD)]
structure StandA (r : Int) (n : Nat) (hs : List Int) (ls : List (Option Nat)) : Prop where
  w0 : 1 ≤ hs.length
  w1 : hs.length ≤ 5
  ln : ls.length = n
  hh : ∀ a ∈ hs, 0 ≤ a ∧ a < r
  hl : ∀ o ∈ ls, ∀ v, o = some v → v < hs.length
theorem web_specA {k f id ie ip ib : Nat} (hf : prog[f]? = some (A_web ib id ie ip)) (hd : prog[id]? = some f_law_draw) (he : prog[ie]? = some (A_ends id)) (hp : prog[ip]? = some (A_price id)) (hb : prog[ib]? = some (A_bars id)) (cells : List Int) {at_ g mr mg : Int} (h3 : 0 ≤ at_) (h4 : at_ + 1000 < 1000000) (h5 : 0 ≤ g) (r0 : 2 ≤ mr) (r1 : mr ≤ 12) (m0 : 2 ≤ mg) (m1 : mg ≤ 24) :
    Ret (run prog fuel (k + 3) f (.ol true (pen cells at_ g) :: ([.int mr, .int mg] : List D).map .sh)) (PenQ cells at_ 1000 (fun m => ∃ d, m = .sh d ∧ WebA mr mg.toNat d) (([.int mr, .int mg] : List D).map .sh)) := by
  refine ret_run (fd := A_web ib id ie ip) hf rfl (Nat.le_of_ble_eq_true rfl) rfl ?_
  simp [A_web]
  refine w_drawA hd rfl (by omega) (by omega) h3 (by omega) h5 fun kind a1 g1 u1 u2 u3 u4 u5 => ?_
  simp
  refine w_drawA hd rfl (by omega) (by omega) (by omega) (by omega) u5 fun v2 a2 g2 x1 x2 x3 x4 x5 => ?_
  simp
  refine w_drawA hd rfl (by omega) (by omega) (by omega) (by omega) x5 fun v3 a3 g3 y1 y2 y3 y4 y5 => ?_
  simp
  have hs : ∃ s : Int, atD [PyData.int mr, PyData.int (1 + v2), PyData.int 2] v3 = some (.int s) ∧ 1 ≤ s ∧ s ≤ mr := by
    rcases at3' (a := .int mr) (b := .int (1 + v2)) (c := .int 2) y1 y2 with e | e | e
    · exact ⟨_, e, by omega, by omega⟩
    · exact ⟨_, e, by omega, by omega⟩
    · exact ⟨_, e, by omega, by omega⟩
  obtain ⟨s, es, s0, s1⟩ := hs
  simp [es]
  refine w_drawA hd rfl (by omega) (by omega) (by omega) (by omega) y5 fun v4 a4 g4 z1 z2 z3 z4 z5 => ?_
  simp
  refine w_drawA hd rfl (by omega) (by omega) (by omega) (by omega) z5 fun v5 a5 g5 w1 w2 w3 w4 w5 => ?_
  simp
  have hn : ∃ n : Int, atD [PyData.int v4, PyData.int mg, PyData.int (if mg < s then mg else s)] v5 = some (.int n) ∧ 0 ≤ n ∧ n ≤ mg := by
    rcases at3' (a := .int v4) (b := .int mg) (c := .int (if mg < s then mg else s)) w1 w2 with e | e | e
    · exact ⟨_, e, by omega, by omega⟩
    · exact ⟨_, e, by omega, by omega⟩
    · exact ⟨_, e, by split <;> omega, by split <;> omega⟩
  obtain ⟨n, en, n0, n1⟩ := hn
  simp [en]
  obtain ⟨N, hN, hN0, hN1, hN2⟩ : ∃ N : Int, (n * if 1 < s then 1 else 0) = N ∧ 0 ≤ N ∧ N ≤ mg ∧ (0 < N → 2 ≤ s) := by
    by_cases q : 1 < s
    · exact ⟨n, by rw [if_pos q, Int.mul_one], n0, by omega, fun _ => by omega⟩
    · exact ⟨0, by rw [if_neg q, Int.mul_zero], by omega, by omega, fun h => by omega⟩
  rw [hN]
  refine ⟨.inl (by omega), small_of hN0 (by omega), ?_⟩
  refine wp_forL (fun i ρ => ∃ a g doors x7, ρ = [some (.ol true (pen cells a g)), some (.sh (.int mr)), some (.sh (.int mg)), some (.sh (.int kind)), some (.sh (.int s)), some (.sh (.int n)), some (.ol false doors), x7] ∧ a5 ≤ a ∧ a ≤ a5 + 5 * i ∧ 0 ≤ g ∧ doors.length = i ∧
      (∀ x ∈ doors, GateT s x) ∧ (x7 = none ∨ ∃ d, x7 = some (.sh d))) ⟨a5, g5, [], none, rfl, by omega, by omega, w5, rfl, by simp, .inl rfl⟩ ?_ ?_
  · rintro i d ρ hd' ⟨a, g, doors, x7, rfl, b1, b2, b3, b4, b5, b6⟩
    obtain ⟨hi, rfl⟩ := rngD_get hd'
    have x7f : free [some (.ol true (pen cells a g)), some (.sh (.int mr)), some (.sh (.int mg)), some (.sh (.int kind)), some (.sh (.int s)), some (.sh (.int n)), some (.ol false doors), x7] 7 = true := by
      rcases b6 with rfl | ⟨d, rfl⟩ <;> simp
    simp only [q_forF, put_name, wpO_gd, x7f, true_and]
    simp
    refine call_pen (ds := [.int kind, .int s, .int i]) (n := 2) rfl rfl (by simp) (ends_specA (k := k) he hd cells (by omega) (by omega) b3 u1 u2 (hN2 (by omega)) (by omega) (by omega)) fun m a6 g6 ⟨d, e, x, y, ed, q1, q2, q3, q4⟩ r1 r2 r3 => ?_
    subst e ed
    simp
    refine call_pen (ds := []) (n := 3) rfl rfl (by simp) (price_specA (k := k) hp hd cells (by omega) (by omega) r3) fun m a7 g7 ⟨c, e, c0, c1⟩ t1 t2 t3 => ?_
    subst e
    simp
    refine ⟨by omega, ?_⟩
    show ∃ _, _
    refine ⟨a7, g7, doors ++ [.tuple [.int x, .int y, .int c]], some (.sh (.int i)), rfl, by omega, by omega, t3, by simp [b4], ?_, .inr ⟨_, rfl⟩⟩
    intro z hz
    rcases List.mem_append.mp hz with h | h
    · exact b5 z h
    · simp at h
      exact ⟨(x, y, c), h, q1, q2, q3, q4, c0, c1⟩
  · rintro ρ ⟨a, g, doors, x7, rfl, b1, b2, b3, b4, b5, b6⟩
    have hm : (rngD 0 N.toNat 1).length = N.toNat := rngD_len
    rw [hm] at b2 b4
    simp
    refine call_pen (ds := [.int doors.length]) (n := 1 + 5 * doors.length) rfl rfl (by simp) (bars_specA (k := k) hb hd cells (by omega) (by omega) b3 (by omega) (by omega)) fun m a7 g7 ⟨bs, e, c0, c1⟩ t1 t2 t3 => ?_
    subst e
    simp
    obtain ⟨gs, rfl, hgs⟩ := exL b5
    rw [List.length_map] at b4 c0 t2
    exact penq (by omega) (by omega) t3 ⟨_, rfl, s, gs, bs, rfl, s0, s1, by omega, hgs, c0, c1⟩
theorem at5 {a b c d e : D} {v : Int} (h0 : 0 ≤ v) (h1 : v < 5) : ∃ x, atD [a, b, c, d, e] v = some x ∧ (x = a ∨ x = b ∨ x = c ∨ x = d ∨ x = e) := by
  obtain ⟨x, e1, h⟩ := at_mem (xs := [a, b, c, d, e]) h0 (by simpa using h1)
  exact ⟨x, e1, by simpa using h⟩
theorem standing_specA {k f i : Nat} (hf : prog[f]? = some (A_standing i)) (hd : prog[i]? = some f_law_draw) (cells : List Int) {at_ g r : Int} {gs : List (Int × Int × Int)} {bars : List D} (h3 : 0 ≤ at_) (h4 : at_ + 200 < 1000000) (h5 : 0 ≤ g) (r0 : 1 ≤ r) (r1 : r ≤ 12) (gl : gs.length ≤ 24) :
    Ret (run prog fuel (k + 2) f (.ol true (pen cells at_ g) :: ([webD r gs bars] : List D).map .sh)) (PenQ cells at_ 80 (fun m => ∃ hs ls, m = .sh (standD hs ls) ∧ StandA r gs.length hs ls) (([webD r gs bars] : List D).map .sh)) := by
  refine ret_run (fd := A_standing i) hf rfl (Nat.le_of_ble_eq_true rfl) rfl ?_
  simp [A_standing, webD]
  refine w_drawA hd rfl (by omega) (by omega) h3 (by omega) h5 fun v1 a1 g1 u1 u2 u3 u4 u5 => ?_
  simp
  refine w_drawA hd rfl (by omega) (by omega) (by omega) (by omega) u5 fun v2 a2 g2 x1 x2 x3 x4 x5 => ?_
  simp
  have hn : ∃ n : Nat, atD [PyData.int (1 + v1), PyData.int 2, PyData.int 5] v2 = some (.int n) ∧ 1 ≤ n ∧ n ≤ 5 := by
    rcases at3' (a := .int (1 + v1)) (b := .int 2) (c := .int 5) x1 x2 with e | e | e
    · exact ⟨(1 + v1).toNat, by rw [e]; congr 2; omega, by omega, by omega⟩
    · exact ⟨2, e, by omega, by omega⟩
    · exact ⟨5, e, by omega, by omega⟩
  obtain ⟨n, en, n0, n1⟩ := hn
  simp [en]
  refine ⟨small_of (by omega) (by omega), rfl, ?_⟩
  refine wp_compL (fun j acc ρ => ∃ a3 g3 x9, ρ = [some (.ol true (pen cells a3 g3)), some (.sh (.tuple [.int r, .tuple (gs.map gateD), .tuple bars])), some (.sh (.int n)), none, none, none, none, none, none, x9] ∧ a2 ≤ a3 ∧ a3 ≤ a2 + j ∧ 0 ≤ g3 ∧ acc.length = j ∧ ∀ x ∈ acc, ∃ a : Int, x = .int a ∧ 0 ≤ a ∧ a < r)
    ⟨a2, g2, none, rfl, by omega, by omega, x5, rfl, fun _ h => by cases h⟩ ?_ ?_
  · rintro j d acc ρ hd' ⟨a3, g3, x9, rfl, c1, c2, c3, c4, c5⟩
    obtain ⟨hj, rfl⟩ := rngD_get hd'
    have hj5 : j < n := by simpa using hj
    simp [wipeE, Tg.vars]
    refine w_drawA hd rfl (by omega) (by omega) (by omega) (by omega) c3 fun v3 a4 g4 y1 y2 y3 y4 y5 => ?_
    simp
    have l5 : acc.length < 16777216 := by omega
    refine ⟨l5, a4, g4, ⟨_, rfl⟩, by omega, by omega, y5, by simp [c4], app_all (P := fun x => ∃ a : Int, x = .int a ∧ 0 ≤ a ∧ a < r) c5 fun x hx => ?_⟩
    rw [List.mem_singleton.mp hx]
    exact ⟨_, rfl, y1, y2⟩
  · rintro acc ρ ⟨a3, g3, x9, rfl, c1, c2, c3, c4, c5⟩
    rw [rngD_len] at c2 c4
    have c4 : acc.length = n := by omega
    obtain ⟨hs, rfl, hh⟩ := exL c5
    rw [List.length_map] at c4
    simp [backE, Tg.vars]
    refine w_drawA hd rfl (by omega) (by omega) (by omega) (by omega) c3 fun kind a4 g4 y1 y2 y3 y4 y5 => ?_
    simp
    refine w_drawA hd rfl (by omega) (by omega) (by omega) (by omega) y5 fun one a5 g5 z1 z2 z3 z4 z5 => ?_
    simp
    refine wp_forL (fun j ρ => ∃ a g ds x7 x8, ρ = [some (.ol true (pen cells a g)), some (.sh (.tuple [.int r, .tuple (gs.map gateD), .tuple bars])), some (.sh (.int n)), some (.sh (.tuple (hs.map .int))), some (.sh (.int kind)), some (.sh (.int one)), some (.ol false ds), x7, x8, none] ∧ a5 ≤ a ∧ a ≤ a5 + 2 * j ∧ 0 ≤ g ∧ ds.length = j ∧ (∀ x ∈ ds, ∃ o : Option Nat, x = ownD o ∧ ∀ v, o = some v → v < hs.length) ∧ Lo x7 ∧ (Lo x8 ∨ ∃ l, x8 = some (.ol false l)))
      ⟨a5, g5, [], none, none, rfl, by omega, by omega, z5, rfl, (fun _ h => by cases h), .inl rfl, .inl (.inl rfl)⟩ ?_ ?_
    · rintro j d ρ hd' ⟨a, g, ds, x7, x8, rfl, b1, b2, b3, b4, b5, b6, b7⟩
      have hj : j < gs.length := by have := (List.getElem?_eq_some_iff.mp hd').1; rwa [List.length_map] at this
      have f8 : ∀ ρ : Env, free (x8 :: ρ) 0 = true := fun ρ => by
        rcases b7 with l5 | ⟨l, rfl⟩
        · exact l5.free ρ
        · simp
      simp [b6.free]
      refine w_drawA hd rfl (by omega) (by omega) (by omega) (by omega) b3 fun v3 a6 g6 p1 p2 p3 p4 p5 => ?_
      simp [f8]
      refine w_drawA hd rfl (by omega) (by omega) (by omega) (by omega) p5 fun v4 a7 g7 q1 q2 q3 q4 q5 => ?_
      simp
      obtain ⟨x, ex, hx⟩ := at5 (a := .int 0) (b := .int 1) (c := .int 2) (d := .int 2) (e := .int v4) y1 y2
      have hx3 : ∃ i : Int, x = .int i ∧ 0 ≤ i ∧ i < 3 := by
        rcases hx with rfl | rfl | rfl | rfl | rfl
        · exact ⟨0, rfl, by omega, by omega⟩
        · exact ⟨1, rfl, by omega, by omega⟩
        · exact ⟨2, rfl, by omega, by omega⟩
        · exact ⟨2, rfl, by omega, by omega⟩
        · exact ⟨_, rfl, q1, q2⟩
      obtain ⟨ix, rfl, i0, i1⟩ := hx3
      simp [ex]
      have pick : ∃ o : Option Nat, atD [PyData.none, PyData.int one, PyData.int v3] ix = some (ownD o) ∧ ∀ v, o = some v → v < hs.length := by
        rcases at3' (a := .none) (b := .int one) (c := .int v3) i0 i1 with e | e | e
        · exact ⟨none, e, by simp⟩
        · exact ⟨some one.toNat, by rw [e]; simp only [ownD]; congr 2; omega, fun v hv => by cases hv; omega⟩
        · exact ⟨some v3.toNat, by rw [e]; simp only [ownD]; congr 2; omega, fun v hv => by cases hv; omega⟩
      obtain ⟨o, eo, ho⟩ := pick
      simp [eo]
      have l5 : ds.length < 16777216 := by omega
      refine ⟨l5, a7, g7, ds ++ [ownD o], _, _, rfl, by omega, by omega, q5, by simp [b4], ?_, .sh _, .inr ⟨_, rfl⟩⟩
      exact app_all (P := fun x => ∃ o : Option Nat, x = ownD o ∧ ∀ v, o = some v → v < hs.length) b5 fun z hz => by rw [List.mem_singleton.mp hz]; exact ⟨o, rfl, ho⟩
    · rintro ρ ⟨a, g, ds, x7, x8, rfl, b1, b2, b3, b4, b5, b6, b7⟩
      rw [List.length_map] at b2 b4
      obtain ⟨ls, rfl, hl⟩ := exL b5
      rw [List.length_map] at b4
      simp
      exact penq (by omega) (by omega) b3 ⟨hs, ls, rfl, by omega, by omega, b4, hh, hl⟩
end MI
namespace MI
open PySem
/-! ### moves and money, as plain things -/
abbrev Gt := Int × Int × Int
abbrev Mv := Nat × Nat
def mvD (m : Mv) : D := .tuple [.int m.1, .int m.2]
def near (p : Int) (g : Gt) : Bool := p == g.1 || p == g.2.1
def other (g : Gt) (p : Int) : Int := if p = g.1 then g.2.1 else g.1
def barB (bars : List D) (w g : Nat) : Bool := memD (.tuple [.int w, .int g]) bars
structure Poss (gs : List Gt) (bars : List D) (hs : List Int) (m : Mv) : Prop where
  ex : ∃ p g, hs[m.1]? = some p ∧ gs[m.2]? = some g ∧ near p g = true ∧ barB bars m.1 m.2 = false
def nearT (p : Int) : Nat → List Gt → List Nat
  | _, [] => []
  | k, g :: gs => if near p g then k :: nearT p (k + 1) gs else nearT p (k + 1) gs
def possAt (gs : List Gt) (bars : List D) (hs : List Int) (w : Nat) : List Mv := match hs[w]? with
  | some p => ((nearT p 0 gs).filter fun j => !barB bars w j).map fun j => (w, j)
  | none => []
def possN (gs : List Gt) (bars : List D) (hs : List Int) (n : Nat) : List Mv := ((List.range n).map (possAt gs bars hs)).flatten
/-- the moves that are possible -/
def possT (gs : List Gt) (bars : List D) (hs : List Int) : List Mv := possN gs bars hs hs.length
def mvH (gs : List Gt) (hs : List Int) (m : Mv) : List Int := match hs[m.1]?, gs[m.2]? with
  | some p, some g => hs.set m.1 (other g p)
  | _, _ => hs
def plH (gs : List Gt) (hs : List Int) (ms : List Mv) : List Int := ms.foldl (mvH gs) hs
def plO (ls : List (Option Nat)) (ms : List Mv) : List (Option Nat) := ms.foldl (fun ls m => ls.set m.2 (some m.1)) ls
/-- each of the moves is possible when it is made -/
def Valid (gs : List Gt) (bars : List D) (hs : List Int) (ms : List Mv) : Prop := ∀ i m, ms[i]? = some m → Poss gs bars (plH gs hs (ms.take i)) m
abbrev An2 := Option Nat × Int
def ansD (a : An2) : D := .tuple [ownD a.1, .int a.2]
def priceT (gs : List Gt) (k : Nat) : Int := match gs[k]? with
  | some g => g.2.2
  | none => 0
def ansT (gs : List Gt) (ls : List (Option Nat)) (m : Mv) : An2 := if (ls[m.2]?).join = some m.1 then (some m.1, 0) else ((ls[m.2]?).join, priceT gs m.2)
def tolds (gs : List Gt) : List (Option Nat) → List Mv → List An2
  | _, [] => []
  | ls, m :: ms => ansT gs ls m :: tolds gs (ls.set m.2 (some m.1)) ms
def ownL (gs : List Gt) (w : Nat) : Nat → List (Option Nat) → List Int
  | _, [] => []
  | k, o :: ls => if o = some w then priceT gs k :: ownL gs w (k + 1) ls else ownL gs w (k + 1) ls
def ownP (gs : List Gt) (ls : List (Option Nat)) (w : Nat) : Int := (ownL gs w 0 ls).sum
def worthT (gs : List Gt) (ls : List (Option Nat)) : Nat → List Int → List Int
  | _, [] => []
  | k, c :: cs => (c + ownP gs ls k) :: worthT gs ls (k + 1) cs
def purseT (gs : List Gt) (ls : List (Option Nat)) : Nat → List Int → List Int
  | _, [] => []
  | k, c :: cs => (c - ownP gs ls k) :: purseT gs ls (k + 1) cs
/-! ### plain facts -/
theorem plH_snoc (gs : List Gt) (hs : List Int) (ms : List Mv) (m : Mv) : plH gs hs (ms ++ [m]) = mvH gs (plH gs hs ms) m := by simp [plH]
theorem plO_snoc (ls : List (Option Nat)) (ms : List Mv) (m : Mv) : plO ls (ms ++ [m]) = (plO ls ms).set m.2 (some m.1) := by simp [plO]
theorem plH_app (gs : List Gt) (hs : List Int) (a b : List Mv) : plH gs hs (a ++ b) = plH gs (plH gs hs a) b := by simp [plH]
theorem plO_app (ls : List (Option Nat)) (a b : List Mv) : plO ls (a ++ b) = plO (plO ls a) b := by simp [plO]
theorem take_snoc {α : Type} {xs : List α} {i : Nat} {x : α} (h : xs[i]? = some x) : xs.take (i + 1) = xs.take i ++ [x] := by rw [List.take_add_one, h]; rfl
theorem mvH_len (gs : List Gt) (hs : List Int) (m : Mv) : (mvH gs hs m).length = hs.length := by
  unfold mvH
  split <;> simp
theorem plH_len (gs : List Gt) : ∀ (ms : List Mv) (hs : List Int), (plH gs hs ms).length = hs.length
  | [], hs => rfl
  | m :: ms, hs => by
    show (plH gs (mvH gs hs m) ms).length = _
    rw [plH_len gs ms, mvH_len]
theorem plO_len : ∀ (ms : List Mv) (ls : List (Option Nat)), (plO ls ms).length = ls.length
  | [], ls => rfl
  | m :: ms, ls => by
    show (plO (ls.set m.2 (some m.1)) ms).length = _
    rw [plO_len ms, List.length_set]
theorem Poss.mv {gs : List Gt} {bars : List D} {hs : List Int} {m : Mv} (h : Poss gs bars hs m) : ∃ p g, hs[m.1]? = some p ∧ gs[m.2]? = some g ∧ near p g = true ∧ barB bars m.1 m.2 = false ∧ mvH gs hs m = hs.set m.1 (other g p) := by
  obtain ⟨p, g, h1, h2, h3, h4⟩ := h.ex
  refine ⟨p, g, h1, h2, h3, h4, ?_⟩
  unfold mvH
  rw [h1, h2]
theorem Valid.nil {gs : List Gt} {bars : List D} {hs : List Int} : Valid gs bars hs [] := fun i m h => by simp at h
theorem Valid.snoc {gs : List Gt} {bars : List D} {hs : List Int} {ms : List Mv} {m : Mv} (h : Valid gs bars hs ms) (p : Poss gs bars (plH gs hs ms) m) : Valid gs bars hs (ms ++ [m]) := fun i x hx => by
  rcases Nat.lt_or_ge i ms.length with q | q
  · rw [List.getElem?_append_left q] at hx
    rw [List.take_append_of_le_length (Nat.le_of_lt q)]
    exact h i x hx
  · rw [List.getElem?_append_right q] at hx
    have : i - ms.length = 0 := by
      cases e : i - ms.length with
      | zero => rfl
      | succ n => rw [e] at hx; simp at hx
    rw [this] at hx
    have hi : i = ms.length := by omega
    subst hi
    simp at hx
    subst hx
    simpa using p
theorem Valid.take {gs : List Gt} {bars : List D} {hs : List Int} {ms : List Mv} (h : Valid gs bars hs ms) (n : Nat) : Valid gs bars hs (ms.take n) := fun i m hm => by
  have hi : i < n := by
    rcases Nat.lt_or_ge i n with q | q
    · exact q
    · rw [List.getElem?_eq_none (by rw [List.length_take]; omega)] at hm; cases hm
  rw [List.getElem?_take, if_pos hi] at hm
  rw [List.take_take, Nat.min_eq_left (Nat.le_of_lt hi)]
  exact h i m hm
theorem Valid.head {gs : List Gt} {bars : List D} {hs : List Int} {m : Mv} {ms : List Mv} : Valid gs bars hs (m :: ms) ↔ Poss gs bars hs m ∧ Valid gs bars (mvH gs hs m) ms := by
  constructor
  · intro h
    exact ⟨h 0 m rfl, fun i x hx => h (i + 1) x hx⟩
  · rintro ⟨h1, h2⟩ i x hx
    cases i with
    | zero => cases hx; exact h1
    | succ i => exact h2 i x hx
theorem Valid.app {gs : List Gt} {bars : List D} : ∀ {a : List Mv} {hs : List Int} {b : List Mv}, Valid gs bars hs (a ++ b) ↔ Valid gs bars hs a ∧ Valid gs bars (plH gs hs a) b
  | [], hs, b => ⟨fun h => ⟨.nil, h⟩, fun h => h.2⟩
  | m :: a, hs, b => by
    rw [List.cons_append, Valid.head, Valid.head, Valid.app (a := a)]
    exact ⟨fun ⟨h1, h2, h3⟩ => ⟨⟨h1, h2⟩, h3⟩, fun ⟨⟨h1, h2⟩, h3⟩ => ⟨h1, h2, h3⟩⟩
theorem near_iff {p : Int} {g : Gt} : near p g = true ↔ p = g.1 ∨ p = g.2.1 := by simp [near]
theorem nearT_mem {p : Int} {j : Nat} : ∀ {gs : List Gt} {k : Nat}, j ∈ nearT p k gs ↔ ∃ i g, gs[i]? = some g ∧ j = k + i ∧ near p g = true
  | [], k => by simp [nearT]
  | g :: gs, k => by
    have ih := nearT_mem (p := p) (j := j) (gs := gs) (k := k + 1)
    simp only [nearT]
    constructor
    · intro h
      split at h
      · rename_i hn
        rcases List.mem_cons.mp h with rfl | h
        · exact ⟨0, g, rfl, rfl, hn⟩
        · obtain ⟨i, g', h1, h2, h3⟩ := ih.mp h
          exact ⟨i + 1, g', h1, by omega, h3⟩
      · obtain ⟨i, g', h1, h2, h3⟩ := ih.mp h
        exact ⟨i + 1, g', h1, by omega, h3⟩
    · rintro ⟨i, g', h1, h2, h3⟩
      cases i with
      | zero =>
        simp at h1
        subst h1
        rw [if_pos h3, h2]
        exact List.mem_cons_self
      | succ i =>
        have := ih.mpr ⟨i, g', by simpa using h1, by omega, h3⟩
        split
        · exact List.mem_cons_of_mem _ this
        · exact this
theorem nearT_len (p : Int) : ∀ (gs : List Gt) (k : Nat), (nearT p k gs).length ≤ gs.length
  | [], k => by simp [nearT]
  | g :: gs, k => by
    have := nearT_len p gs (k + 1)
    simp only [nearT]
    split <;> simp <;> omega
theorem possN_succ (gs : List Gt) (bars : List D) (hs : List Int) (n : Nat) : possN gs bars hs (n + 1) = possN gs bars hs n ++ possAt gs bars hs n := by
  unfold possN
  rw [List.range_succ, List.map_append, List.flatten_append]
  simp
theorem possAt_len (gs : List Gt) (bars : List D) (hs : List Int) (w : Nat) : (possAt gs bars hs w).length ≤ gs.length := by
  unfold possAt
  split
  · rw [List.length_map]
    exact Nat.le_trans (List.length_filter_le _ _) (nearT_len _ _ _)
  · exact Nat.zero_le _
theorem possN_len (gs : List Gt) (bars : List D) (hs : List Int) : ∀ n, (possN gs bars hs n).length ≤ n * gs.length
  | 0 => by simp [possN]
  | n + 1 => by
    have h1 := possN_len gs bars hs n
    have h2 := possAt_len gs bars hs n
    rw [possN_succ, List.length_append, Nat.succ_mul]
    omega
theorem possAt_mem {gs : List Gt} {bars : List D} {hs : List Int} {w : Nat} {m : Mv} : m ∈ possAt gs bars hs w ↔ m.1 = w ∧ Poss gs bars hs m := by
  unfold possAt
  constructor
  · intro h
    split at h
    · rename_i p hp
      obtain ⟨j, hj, rfl⟩ := List.mem_map.mp h
      obtain ⟨h1, h2⟩ := List.mem_filter.mp hj
      obtain ⟨i, g, e1, e2, e3⟩ := nearT_mem.mp h1
      have : j = i := by omega
      subst this
      exact ⟨rfl, ⟨p, g, hp, e1, e3, by simpa using h2⟩⟩
    · cases h
  · rintro ⟨rfl, h⟩
    obtain ⟨p, g, h1, h2, h3, h4⟩ := h.ex
    rw [h1]
    exact List.mem_map.mpr ⟨m.2, List.mem_filter.mpr ⟨nearT_mem.mpr ⟨m.2, g, h2, by omega, h3⟩, by simpa using h4⟩, rfl⟩
theorem possT_mem {gs : List Gt} {bars : List D} {hs : List Int} {m : Mv} : m ∈ possT gs bars hs ↔ Poss gs bars hs m := by
  unfold possT possN
  constructor
  · intro h
    obtain ⟨l, hl, hm⟩ := List.mem_flatten.mp h
    obtain ⟨w, hw, rfl⟩ := List.mem_map.mp hl
    exact (possAt_mem.mp hm).2
  · intro h
    obtain ⟨p, g, h1, h2, h3, h4⟩ := h.ex
    have hl : m.1 < hs.length := (List.getElem?_eq_some_iff.mp h1).1
    exact List.mem_flatten.mpr ⟨_, List.mem_map.mpr ⟨m.1, List.mem_range.mpr hl, rfl⟩, possAt_mem.mpr ⟨rfl, h⟩⟩
theorem possT_len {gs : List Gt} {bars : List D} {hs : List Int} (h1 : hs.length ≤ 5) (h2 : gs.length ≤ 24) : (possT gs bars hs).length ≤ 120 := by
  refine Nat.le_trans (possN_len gs bars hs hs.length) ?_
  exact Nat.mul_le_mul h1 h2
theorem other_near {g : Gt} {p : Int} (h : near p g = true) : near (other g p) g = true := by
  rw [near_iff] at *
  unfold other
  split
  · exact .inr rfl
  · exact .inl rfl
/-- the same move again is possible, and leads back -/
theorem Poss.again {gs : List Gt} {bars : List D} {hs : List Int} {m : Mv} (h : Poss gs bars hs m) : Poss gs bars (mvH gs hs m) m ∧ mvH gs (mvH gs hs m) m = hs := by
  obtain ⟨p, g, h1, h2, h3, h4, h5⟩ := h.mv
  have hl : m.1 < hs.length := (List.getElem?_eq_some_iff.mp h1).1
  have e : (hs.set m.1 (other g p))[m.1]? = some (other g p) := List.getElem?_set_self hl
  rw [h5]
  refine ⟨⟨_, g, e, h2, other_near h3, h4⟩, ?_⟩
  unfold mvH
  rw [e, h2]
  dsimp only
  rw [List.set_set]
  have : other g (other g p) = p := by
    rw [near_iff] at h3
    unfold other
    rcases h3 with rfl | rfl
    · rw [if_pos rfl]
      split
      · assumption
      · rfl
    · split
      · rfl
      · rw [if_pos rfl]
  rw [this]
  apply List.ext_getElem?
  intro i
  by_cases hi : m.1 = i
  · subst hi; rw [List.getElem?_set_self hl, h1]
  · rw [List.getElem?_set_ne hi]
theorem tolds_snoc (gs : List Gt) : ∀ (ms : List Mv) (ls : List (Option Nat)) (m : Mv), tolds gs ls (ms ++ [m]) = tolds gs ls ms ++ [ansT gs (plO ls ms) m]
  | [], ls, m => rfl
  | x :: ms, ls, m => by
    show ansT gs ls x :: tolds gs _ (ms ++ [m]) = _
    rw [tolds_snoc gs ms]
    rfl
theorem tolds_len (gs : List Gt) : ∀ (ms : List Mv) (ls : List (Option Nat)), (tolds gs ls ms).length = ms.length
  | [], ls => rfl
  | x :: ms, ls => by simp [tolds, tolds_len gs ms]
/-- places stay rooms -/
theorem plH_rooms {r : Int} {gs : List Gt} (hg : ∀ g ∈ gs, GateA r g) : ∀ {ms : List Mv} {hs : List Int}, (∀ a ∈ hs, 0 ≤ a ∧ a < r) → ∀ a ∈ plH gs hs ms, 0 ≤ a ∧ a < r
  | [], hs, h => h
  | m :: ms, hs, h => by
    refine plH_rooms hg (ms := ms) (hs := mvH gs hs m) ?_
    unfold mvH
    split
    · rename_i p g hp hgt
      intro a ha
      rcases List.mem_or_eq_of_mem_set ha with q | rfl
      · exact h a q
      · obtain ⟨g1, g2, g3, g4, _⟩ := hg g (List.mem_of_getElem? hgt)
        unfold other
        split
        · exact ⟨g3, g4⟩
        · exact ⟨g1, g2⟩
    · exact h
theorem plO_own {n : Nat} {gs : List Gt} {bars : List D} : ∀ {ms : List Mv} {hs : List Int} {ls : List (Option Nat)}, hs.length = n → Valid gs bars hs ms → (∀ o ∈ ls, ∀ v, o = some v → v < n) → ∀ o ∈ plO ls ms, ∀ v, o = some v → v < n
  | [], hs, ls, _, _, h => h
  | m :: ms, hs, ls, hn, hv, h => by
    obtain ⟨hp, hv'⟩ := Valid.head.mp hv
    refine plO_own (ms := ms) (hs := mvH gs hs m) (ls := ls.set m.2 (some m.1)) (by rw [mvH_len]; exact hn) hv' ?_
    intro o ho v ev
    rcases List.mem_or_eq_of_mem_set ho with q | q
    · exact h o q v ev
    · obtain ⟨p, g, h1, _⟩ := hp.ex
      have := (List.getElem?_eq_some_iff.mp h1).1
      rw [q] at ev
      cases ev
      omega
end MI
namespace MI
open PySem
/-! ### the program's functions on moves and money -/
def M_is_integer : Fd := ⟨1, 1, [.ret (.and (.isa (.var 0) [.int] false) (.not (.isa (.var 0) [.bool] false)))]⟩
def M_is_between (i_is_integer : Nat) : Fd := ⟨3, 3, [.ret (.and (.call i_is_integer [.var 0] [true] [.e 0]) (.chain .le .le (.var 1) (.var 0) (.var 2)))]⟩
def M_may_pass : Fd := ⟨3, 3, [.ret (.cmp .notin (.tup [.var 1, .var 2]) (.idx (.var 0) (.int 2)))]⟩
def M_ends : Fd := ⟨2, 2, [.ret (.sl (.idx (.idx (.var 0) (.int 1)) (.var 1)) none (some (.int 2)))]⟩
def M_price : Fd := ⟨2, 2, [.ret (.idx (.idx (.idx (.var 0) (.int 1)) (.var 1)) (.int 2))]⟩
def M_gates_at : Fd := ⟨2, 4, [.ret (.bi1 .tuple (.comp (.var 2) (.tup [.name 2, .name 3]) (.enum (.idx (.var 0) (.int 1))) (some (.cmp .isin (.var 1) (.sl (.var 3) none (some (.int 2)))))))]⟩
def M_beyond (i_ends : Nat) : Fd := ⟨3, 5, [.unp [3, 4] (.call i_ends [.var 0, .var 1] [true, true] [.e 0, .e 1]), .ret (.ite (.cmp .eq (.var 2) (.var 3)) (.var 4) (.var 3))]⟩
def M_is_possible (i_ends : Nat) (i_is_between : Nat) (i_may_pass : Nat) : Fd := ⟨4, 4, [.ite (.or (.not (.call i_is_between [.var 2, .int 0, .bin .sub (.bi1 .len (.idx (.var 1) (.int 0))) (.int 1)] [true, true, true] [.e 0, .e 1, .e 2])) (.not (.call i_is_between [.var 3, .int 0, .bin .sub (.bi1 .len (.idx (.var 0) (.int 1))) (.int 1)] [true, true, true] [.e 0, .e 1, .e 2]))) [.ret (.bl false)] [], .ret (.and (.cmp .isin (.idx (.idx (.var 1) (.int 0)) (.var 2)) (.call i_ends [.var 0, .var 3] [true, true] [.e 0, .e 1])) (.call i_may_pass [.var 0, .var 2, .var 3] [true, false, false] [.e 0, .e 1, .e 2]))]⟩
def M_possible (i_gates_at : Nat) (i_may_pass : Nat) : Fd := ⟨2, 6, [.asg 2 (.lst []), .for (.tup [.name 3, .name 4]) (.enum (.idx (.var 1) (.int 0))) [.expr (.mu .extend 2 [.comp (.tup [.var 3, .var 5]) (.name 5) (.seq (.call i_gates_at [.var 0, .var 4] [true, true] [.e 0, .e 1])) (some (.call i_may_pass [.var 0, .var 3, .var 5] [true, false, false] [.e 0, .e 1, .e 2]))])], .ret (.var 2)]⟩
def M_replaced : Fd := ⟨3, 3, [.ret (.bin .add (.bin .add (.sl (.var 0) none (some (.var 1))) (.tup [.var 2])) (.sl (.var 0) (some (.bin .add (.var 1) (.int 1))) none))]⟩
def M_moved (i_beyond : Nat) (i_is_possible : Nat) (i_replaced : Nat) : Fd := ⟨4, 7, [.ite (.not (.call i_is_possible [.var 0, .var 1, .var 2, .var 3] [true, true, false, false] [.e 0, .e 1, .e 2, .e 3])) [.raise 0 []] [], .unp [5, 6] (.var 1), .asg 4 (.call i_beyond [.var 0, .var 3, .idx (.var 5) (.var 2)] [true, true, true] [.e 0, .e 1, .e 2]), .ret (.tup [.call i_replaced [.var 5, .var 2, .var 4] [true, false, false] [.e 0, .e 1, .e 2], .call i_replaced [.var 6, .var 3, .var 2] [true, false, false] [.e 0, .e 1, .e 2]])]⟩
def M_played (i_moved : Nat) : Fd := ⟨3, 5, [.for (.tup [.name 3, .name 4]) (.seq (.var 2)) [.asg 1 (.call i_moved [.var 0, .var 1, .var 3, .var 4] [true, false, false, false] [.e 0, .e 1, .e 2, .e 3])], .ret (.var 1)]⟩
def M_answer (i_is_possible : Nat) (i_price : Nat) : Fd := ⟨4, 5, [.ite (.not (.call i_is_possible [.var 0, .var 1, .var 2, .var 3] [true, true, false, false] [.e 0, .e 1, .e 2, .e 3])) [.raise 0 []] [], .asg 4 (.idx (.idx (.var 1) (.int 1)) (.var 3)), .ite (.cmp .eq (.var 4) (.var 2)) [.ret (.tup [.var 2, .int 0])] [], .ret (.tup [.var 4, .call i_price [.var 0, .var 3] [true, true] [.e 0, .e 1]])]⟩
def M_answers (i_answer : Nat) (i_moved : Nat) : Fd := ⟨3, 6, [.asg 3 (.lst []), .for (.tup [.name 4, .name 5]) (.seq (.var 2)) [.expr (.mu .append 3 [.call i_answer [.var 0, .var 1, .var 4, .var 5] [true, true, false, false] [.e 0, .e 1, .e 2, .e 3]]), .asg 1 (.call i_moved [.var 0, .var 1, .var 4, .var 5] [true, false, false, false] [.e 0, .e 1, .e 2, .e 3])], .ret (.var 3)]⟩
def M_own_prices (i_price : Nat) : Fd := ⟨3, 5, [.ret (.bi1 .sum (.comp (.call i_price [.var 0, .var 3] [true, true] [.e 0, .e 1]) (.tup [.name 3, .name 4]) (.enum (.var 1)) (some (.cmp .eq (.var 4) (.var 2)))))]⟩
def M_worths (i_own_prices : Nat) : Fd := ⟨3, 5, [.ret (.bi1 .tuple (.comp (.bin .add (.var 4) (.call i_own_prices [.var 0, .idx (.var 1) (.int 1), .var 3] [true, false, true] [.e 0, .e 1, .e 2])) (.tup [.name 3, .name 4]) (.enum (.var 2)) none))]⟩
def M_purses_of (i_own_prices : Nat) : Fd := ⟨3, 5, [.ret (.bi1 .tuple (.comp (.bin .sub (.var 4) (.call i_own_prices [.var 0, .idx (.var 1) (.int 1), .var 3] [true, false, true] [.e 0, .e 1, .e 2])) (.tup [.name 3, .name 4]) (.enum (.var 2)) none))]⟩
variable {prog : List Fd} {fuel : Nat}
theorem at_natA {xs : List D} {i : Nat} {d : D} (h : xs[i]? = some d) : atD xs i = some d := by
  have hi : i < xs.length := (List.getElem?_eq_some_iff.mp h).1
  refine at_lt (by omega) (by omega) ?_
  simpa using h
theorem lt_natA {α : Type} {xs : List α} {i : Nat} {d : α} (h : xs[i]? = some d) : i < xs.length := (List.getElem?_eq_some_iff.mp h).1
theorem get_gate {gs : List Gt} {g : Nat} {gt : Gt} (h : gs[g]? = some gt) : atD (gs.map gateD) g = some (gateD gt) := at_natA (by rw [List.getElem?_map, h]; rfl)
theorem get_room {hs : List Int} {w : Nat} {p : Int} (h : hs[w]? = some p) : atD (hs.map PyData.int) w = some (.int p) := at_natA (by rw [List.getElem?_map, h]; rfl)
theorem get_own {ls : List (Option Nat)} {g : Nat} (h : g < ls.length) : atD (ls.map ownD) g = some (ownD (ls[g]?).join) := by
  apply at_natA
  rw [List.getElem?_map]
  simp [h]
theorem in_two (p a b : Int) : opCmp .isin (.int p) (.tuple [.int a, .int b]) = some (p == a || p == b) := by
  have e : opCmp .isin (.int p) (.tuple [.int a, .int b]) = some (memD (.int p) [.int a, .int b]) := rfl
  rw [e]
  congr 1
  have f : ∀ x : Int, PyData.eqv (.int x) (.int p) = (p == x) := fun x => by
    simp only [PyData.eqv]
    by_cases h : p = x
    · subst h; rfl
    · have h' : ¬ (x = p) := fun z => h z.symm
      rw [beq_eq_false_iff_ne.mpr h, beq_eq_false_iff_ne.mpr h']
  simp [memD, f]
theorem notin_bars {bars : List D} (hb : PyData.plainAll bars = true) (i j : Nat) : opCmp .notin (.tuple [.int i, .int j]) (.tuple bars) = some (!barB bars i j) := by
  show (gd (okEq (.tuple [.int i, .int j]) && PyData.plainAll bars) (memD (.tuple [.int i, .int j]) bars)).map not = _
  rw [hb, show okEq (.tuple [.int (i : Int), .int (j : Int)]) = true from rfl]
  rfl
theorem cut_twoA (a b c : D) : cutL [a, b, c] none (some 2) = [a, b] := rfl
theorem int_specM {k i : Nat} (hi : prog[i]? = some M_is_integer) (n : Int) : Ret (run prog fuel (k + 1) i ([.int n].map .sh)) (fun m fin => m = .sh (.bool true) ∧ fin = [.int n].map .sh) := by
  refine ret_run (fd := M_is_integer) hi rfl (Nat.le_of_ble_eq_true rfl) rfl ?_
  simp [M_is_integer, isTy]
theorem bet_specM {k f i : Nat} (hf : prog[f]? = some (M_is_between i)) (hi : prog[i]? = some M_is_integer) {n a b : Int} (h1 : a ≤ n) (h2 : n ≤ b) : Ret (run prog fuel (k + 2) f ([.int n, .int a, .int b].map .sh)) (fun m fin => m = .sh (.bool true) ∧ fin = [.int n, .int a, .int b].map .sh) := by
  refine ret_run (fd := M_is_between i) hf rfl (Nat.le_of_ble_eq_true rfl) rfl ?_
  simp [M_is_between]
  refine call_sh (ds := [.int n]) rfl (by simp) (int_specM hi n) ?_
  simp [h1, h2]
theorem may_specM {k f : Nat} (hf : prog[f]? = some M_may_pass) {r : Int} {gs : List Gt} {bars : List D} (hb : PyData.plainAll bars = true) (w g : Nat) : Ret (run prog fuel (k + 1) f ([webD r gs bars, .int w, .int g].map .sh)) (fun m fin => m = .sh (.bool (!barB bars w g)) ∧ fin = [webD r gs bars, .int w, .int g].map .sh) := by
  refine ret_run (fd := M_may_pass) hf rfl (Nat.le_of_ble_eq_true rfl) rfl ?_
  simp [M_may_pass, webD, notin_bars hb]
theorem ends_specM {k f : Nat} (hf : prog[f]? = some M_ends) {r : Int} {gs : List Gt} {bars : List D} {g : Nat} {gt : Gt} (hg : gs[g]? = some gt) : Ret (run prog fuel (k + 1) f ([webD r gs bars, .int g].map .sh)) (fun m fin => m = .sh (.tuple [.int gt.1, .int gt.2.1]) ∧ fin = [webD r gs bars, .int g].map .sh) := by
  refine ret_run (fd := M_ends) hf rfl (Nat.le_of_ble_eq_true rfl) rfl ?_
  simp [M_ends, webD, get_gate hg]
  simp [gateD, cut_twoA]
theorem price_specM {k f : Nat} (hf : prog[f]? = some M_price) {r : Int} {gs : List Gt} {bars : List D} {g : Nat} {gt : Gt} (hg : gs[g]? = some gt) : Ret (run prog fuel (k + 1) f ([webD r gs bars, .int g].map .sh)) (fun m fin => m = .sh (.int gt.2.2) ∧ fin = [webD r gs bars, .int g].map .sh) := by
  refine ret_run (fd := M_price) hf rfl (Nat.le_of_ble_eq_true rfl) rfl ?_
  simp [M_price, webD, get_gate hg]
  simp [gateD]
def nearG (p : Int) : D → Option D
  | .tuple [i, .tuple (.int a :: .int b :: _)] => if p == a || p == b then some i else none
  | _ => none
theorem enumD_lenA : ∀ (xs : List D) (k : Nat), (enumD k xs).length = xs.length
  | [], _ => rfl
  | x :: xs, k => by simp [enumD, enumD_lenA xs (k + 1)]
theorem enumD_getA : ∀ {xs : List D} {k i : Nat} {d : D}, (enumD k xs)[i]? = some d → ∃ e, xs[i]? = some e ∧ d = .tuple [.int ((k + i : Nat) : Int), e]
  | [], _, _, _, h => by simp [enumD] at h
  | x :: xs, k, 0, d, h => by
    simp [enumD] at h
    exact ⟨x, rfl, h.symm⟩
  | x :: xs, k, i + 1, d, h => by
    obtain ⟨e, h1, h2⟩ := enumD_getA (xs := xs) (k := k + 1) (i := i) (by simpa [enumD] using h)
    exact ⟨e, by simpa using h1, by rw [h2, Nat.add_right_comm, Nat.add_assoc k i 1]⟩
/-- an item of an enumeration over a map -/
theorem enum_map {α : Type} {f : α → D} {xs : List α} {d : D} (h : d ∈ enumD 0 (xs.map f)) : ∃ (i : Nat) (x : α), xs[i]? = some x ∧ d = .tuple [.int i, f x] := by
  obtain ⟨i, hi⟩ := List.mem_iff_getElem?.mp h
  obtain ⟨e, h1, h2⟩ := enumD_getA hi
  rw [List.getElem?_map, Option.map_eq_some_iff] at h1
  obtain ⟨x, hx, rfl⟩ := h1
  exact ⟨i, x, hx, by rw [h2, Nat.zero_add]⟩
theorem enum_map_get {α : Type} {f : α → D} {xs : List α} {d : D} {i : Nat} (h : (enumD 0 (xs.map f))[i]? = some d) : ∃ x : α, xs[i]? = some x ∧ d = .tuple [.int i, f x] := by
  obtain ⟨e, h1, h2⟩ := enumD_getA h
  rw [List.getElem?_map, Option.map_eq_some_iff] at h1
  obtain ⟨x, hx, rfl⟩ := h1
  exact ⟨x, hx, by rw [h2, Nat.zero_add]⟩
def natD (j : Nat) : D := .int j
theorem near_map (p : Int) : ∀ (gs : List Gt) (k : Nat), (enumD k (gs.map gateD)).filterMap (nearG p) = (nearT p k gs).map natD
  | [], k => rfl
  | g :: gs, k => by
    have ih := near_map p gs (k + 1)
    show (enumD k (gateD g :: gs.map gateD)).filterMap (nearG p) = _
    simp only [enumD, List.filterMap_cons, nearT]
    rw [ih]
    have e : nearG p (.tuple [.int (k : Int), gateD g]) = if near p g then some (natD k) else none := rfl
    rw [e]
    cases near p g <;> rfl
theorem gates_at_specM {k f : Nat} (hf : prog[f]? = some M_gates_at) {r : Int} {gs : List Gt} {bars : List D} (gl : gs.length ≤ 24) (p : Int) : Ret (run prog fuel (k + 1) f ([webD r gs bars, .int p].map .sh)) (fun m fin => m = .sh (.tuple ((nearT p 0 gs).map natD)) ∧ fin = [webD r gs bars, .int p].map .sh) := by
  refine ret_run (fd := M_gates_at) hf rfl (Nat.le_of_ble_eq_true rfl) rfl ?_
  simp [M_gates_at, webD]
  refine wp_pure (nearG p) rfl (by rw [enumD_lenA, List.length_map]; exact Nat.le_trans gl (by decide)) (fun x hx => ?_) ?_
  · obtain ⟨i, g, hi, rfl⟩ := enum_map hx
    simp [wipeE, Tg.vars, Tg.varss, gateD, cut_twoA, in_two]
    simp [nearG, wipeE, Tg.vars, Tg.varss]
    refine wpI_of (fun h => ?_) fun h => ?_
    · have h : p = g.1 ∨ p = g.2.1 := by simpa using h
      exact fun q => h.resolve_left q
    · simpa using h
  · rw [near_map]
    simp
theorem beyond_specM {k f i : Nat} (hf : prog[f]? = some (M_beyond i)) (hi : prog[i]? = some M_ends) {r : Int} {gs : List Gt} {bars : List D} {g : Nat} {gt : Gt} (hg : gs[g]? = some gt) (p : Int) : Ret (run prog fuel (k + 2) f ([webD r gs bars, .int g, .int p].map .sh)) (fun m fin => m = .sh (.int (other gt p)) ∧ fin = [webD r gs bars, .int g, .int p].map .sh) := by
  refine ret_run (fd := M_beyond i) hf rfl (Nat.le_of_ble_eq_true rfl) rfl ?_
  simp [M_beyond]
  refine call_sh (ds := [webD r gs bars, .int g]) rfl (by simp) (ends_specM hi hg) ?_
  simp
  refine wpI_of (fun h => ?_) fun h => ?_
  · have h : p = gt.1 := by simpa using h
    simp [other, h]
  · have h : ¬ p = gt.1 := by simpa using h
    simp [other, h]
theorem isp_specM {k f ie ib im ii : Nat} (hf : prog[f]? = some (M_is_possible ie ib im)) (he : prog[ie]? = some M_ends) (hb : prog[ib]? = some (M_is_between ii)) (hm : prog[im]? = some M_may_pass) (hi : prog[ii]? = some M_is_integer) {r : Int} {gs : List Gt} {bars : List D} (pb : PyData.plainAll bars = true) {hs : List Int} {ls : List (Option Nat)} {m : Mv} (P : Poss gs bars hs m) :
    Ret (run prog fuel (k + 3) f ([webD r gs bars, standD hs ls, .int m.1, .int m.2].map .sh)) (fun m' fin => m' = .sh (.bool true) ∧ fin = [webD r gs bars, standD hs ls, .int m.1, .int m.2].map .sh) := by
  obtain ⟨p, gt, h1, h2, h3, h4⟩ := P.ex
  have l1 := lt_natA h1
  have l2 := lt_natA h2
  refine ret_run (fd := M_is_possible ie ib im) hf rfl (Nat.le_of_ble_eq_true rfl) rfl ?_
  simp [M_is_possible, webD, standD]
  refine call_sh (ds := [.int m.1, .int 0, .int (hs.length - 1)]) rfl (by simp) (bet_specM hb hi (by omega) (by omega)) ?_
  simp
  refine call_sh (ds := [.int m.2, .int 0, .int (gs.length - 1)]) rfl (by simp) (bet_specM hb hi (by omega) (by omega)) ?_
  simp [get_room h1]
  refine call_sh (ds := [webD r gs bars, .int m.2]) rfl (by simp) (ends_specM he h2) ?_
  rw [near_iff] at h3
  simp [in_two, h3]
  refine call_sh (ds := [webD r gs bars, .int m.1, .int m.2]) rfl (by simp) (may_specM hm pb m.1 m.2) ?_
  simp [h4]
def barG (bars : List D) (w : Nat) : D → Option D
  | .int g => if barB bars w g.toNat then none else some (mvD (w, g.toNat))
  | _ => none
theorem bar_map (bars : List D) (w : Nat) : ∀ js : List Nat, (js.map natD).filterMap (barG bars w) = ((js.filter fun j => !barB bars w j).map fun j => ((w, j) : Mv)).map mvD
  | [] => rfl
  | j :: js => by
    have ih := bar_map bars w js
    rw [List.map_cons, List.filterMap_cons, List.filter_cons, ih]
    have e : barG bars w (natD j) = if barB bars w j then none else some (mvD (w, j)) := rfl
    rw [e]
    cases barB bars w j <;> rfl
theorem ext_l (xs ys : List D) : opMu .extend xs [.list ys] = gd (decide (xs.length + ys.length ≤ Lim)) (.none, xs ++ ys) := rfl
theorem possible_specM {k f ig im : Nat} (hf : prog[f]? = some (M_possible ig im)) (hg : prog[ig]? = some M_gates_at) (hm : prog[im]? = some M_may_pass) {r : Int} {gs : List Gt} {bars : List D} (gl : gs.length ≤ 24) (pb : PyData.plainAll bars = true) {hs : List Int} {ls : List (Option Nat)} (wl : hs.length ≤ 5) :
    Ret (run prog fuel (k + 2) f ([webD r gs bars, standD hs ls].map .sh)) (fun m fin => m = .ol false ((possT gs bars hs).map mvD) ∧ fin = [webD r gs bars, standD hs ls].map .sh) := by
  refine ret_run (fd := M_possible ig im) hf rfl (Nat.le_of_ble_eq_true rfl) rfl ?_
  simp [M_possible, standD]
  refine wp_forL (fun i ρ => ∃ x3 x4, ρ = [some (.sh (webD r gs bars)), some (.sh (.tuple [.tuple (hs.map .int), .tuple (ls.map ownD)])), some (.ol false ((possN gs bars hs i).map mvD)), x3, x4, none] ∧ Lo x3 ∧ Lo x4)
    ⟨none, none, rfl, .inl rfl, .inl rfl⟩ ?_ ?_
  · rintro i d ρ hd ⟨x3, x4, rfl, l3, l4⟩
    obtain ⟨p, hp, rfl⟩ := enum_map_get hd
    have hi := lt_natA hp
    simp [l3.free, l4.free]
    refine call_sh (ds := [webD r gs bars, .int p]) rfl (by simp) (gates_at_specM (k := k) hg gl p) ?_
    simp
    have ln : (nearT p 0 gs).length ≤ 24 := Nat.le_trans (nearT_len _ _ _) gl
    refine wp_pure (barG bars i) rfl (by rw [List.length_map]; exact Nat.le_trans ln (by decide)) (fun x hx => ?_) ?_
    · obtain ⟨j, hj, rfl⟩ := List.mem_map.mp hx
      simp [wipeE, Tg.vars, natD]
      refine call_sh (ds := [webD r gs bars, .int i, .int j]) rfl (by simp) (may_specM (k := k) hm pb i j) ?_
      simp [barG, wipeE, Tg.vars, truth]
      cases h : barB bars i j <;> simp [mvD]
    · rw [bar_map]
      have e : possAt gs bars hs i = ((nearT p 0 gs).filter fun j => !barB bars i j).map fun j => (i, j) := by
        unfold possAt
        rw [hp]
      rw [← e]
      have b1 := possN_len gs bars hs i
      have b2 := possAt_len gs bars hs i
      have b3 : i * gs.length ≤ 5 * 24 := Nat.mul_le_mul (by omega) gl
      simp [ext_l]
      refine ⟨by omega, ?_⟩
      refine ⟨_, _, by rw [possN_succ, List.map_append], .sh _, .sh _⟩
  · rintro ρ ⟨x3, x4, rfl, l3, l4⟩
    rw [enumD_lenA, List.length_map]
    simp [possT]
theorem rep_specM {k f : Nat} (hf : prog[f]? = some M_replaced) {xs : List D} {i : Nat} {v : D} (h : i < xs.length) (hl : xs.length ≤ 1000) : Ret (run prog fuel (k + 1) f ([.tuple xs, .int i, v].map .sh)) (fun m fin => m = .sh (.tuple (xs.set i v)) ∧ fin = [.tuple xs, .int i, v].map .sh) := by
  refine ret_run (fd := M_replaced) hf rfl (Nat.le_of_ble_eq_true rfl) rfl ?_
  have c1 := cut_len xs none (some (i : Int))
  have c2 := cut_len xs (some ((i : Int) + 1)) none
  have e := put_cut (xs := xs) (v := (i : Int)) (x := v) (by omega) (by omega)
  simp [M_replaced]
  refine ⟨by omega, by omega, ?_⟩
  rw [e]
  simp
theorem moved_specM {k f ibe isp irp ie ib im ii : Nat} (hf : prog[f]? = some (M_moved ibe isp irp)) (hbe : prog[ibe]? = some (M_beyond ie)) (his : prog[isp]? = some (M_is_possible ie ib im)) (hrp : prog[irp]? = some M_replaced) (he : prog[ie]? = some M_ends) (hb : prog[ib]? = some (M_is_between ii)) (hm : prog[im]? = some M_may_pass) (hi : prog[ii]? = some M_is_integer)
    {r : Int} {gs : List Gt} {bars : List D} (pb : PyData.plainAll bars = true) {hs : List Int} {ls : List (Option Nat)} {m : Mv} (P : Poss gs bars hs m) (hl : ls.length = gs.length) (gl : gs.length ≤ 24) (wl : hs.length ≤ 5) :
    Ret (run prog fuel (k + 4) f ([webD r gs bars, standD hs ls, .int m.1, .int m.2].map .sh)) (fun m' fin => m' = .sh (standD (mvH gs hs m) (ls.set m.2 (some m.1))) ∧ fin = [webD r gs bars, standD hs ls, .int m.1, .int m.2].map .sh) := by
  obtain ⟨p, gt, h1, h2, h3, h4, h5⟩ := P.mv
  have l1 := lt_natA h1
  have l2 := lt_natA h2
  refine ret_run (fd := M_moved ibe isp irp) hf rfl (Nat.le_of_ble_eq_true rfl) rfl ?_
  simp [M_moved]
  refine call_sh (ds := [webD r gs bars, standD hs ls, .int m.1, .int m.2]) rfl (by simp) (isp_specM (k := k) his he hb hm hi pb P) ?_
  simp [standD, truth, get_room h1]
  refine call_sh (ds := [webD r gs bars, .int m.2, .int p]) rfl (by simp) (beyond_specM (k := k + 1) hbe he h2 p) ?_
  simp
  refine call_sh (ds := [.tuple (hs.map .int), .int m.1, .int (other gt p)]) rfl (by simp) (rep_specM (k := k + 2) hrp (by rw [List.length_map]; exact l1) (by rw [List.length_map]; omega)) ?_
  simp
  refine call_sh (ds := [.tuple (ls.map ownD), .int m.2, .int m.1]) rfl (by simp) (rep_specM (k := k + 2) hrp (by rw [List.length_map]; omega) (by rw [List.length_map]; omega)) ?_
  simp [h5, List.map_set, ownD]
end MI
namespace MI
open PySem
variable {prog : List Fd} {fuel : Nat}
/-- where the program's functions on moves stand -/
structure MvIx where
  (bey isp rep ends bet may int : Nat)
structure HasMv (prog : List Fd) (im : Nat) (I : MvIx) : Prop where
  mov : prog[im]? = some (M_moved I.bey I.isp I.rep)
  bey : prog[I.bey]? = some (M_beyond I.ends)
  isp : prog[I.isp]? = some (M_is_possible I.ends I.bet I.may)
  rep : prog[I.rep]? = some M_replaced
  ends : prog[I.ends]? = some M_ends
  bet : prog[I.bet]? = some (M_is_between I.int)
  may : prog[I.may]? = some M_may_pass
  int : prog[I.int]? = some M_is_integer
/-- a web, its bars, a standing -/
structure Stand (gs : List Gt) (bars : List D) (hs : List Int) (ls : List (Option Nat)) : Prop where
  gl : gs.length ≤ 24
  pb : PyData.plainAll bars = true
  wl : hs.length ≤ 5
  hl : ls.length = gs.length
theorem Stand.go {gs : List Gt} {bars : List D} {hs : List Int} {ls : List (Option Nat)} (S : Stand gs bars hs ls) (ms : List Mv) : Stand gs bars (plH gs hs ms) (plO ls ms) := ⟨S.gl, S.pb, by rw [plH_len]; exact S.wl, by rw [plO_len]; exact S.hl⟩
theorem mv_spec {k f : Nat} {I : MvIx} (h : HasMv prog f I) {r : Int} {gs : List Gt} {bars : List D} {hs : List Int} {ls : List (Option Nat)} (S : Stand gs bars hs ls) {m : Mv} (P : Poss gs bars hs m) :
    Ret (run prog fuel (k + 4) f ([webD r gs bars, standD hs ls, .int m.1, .int m.2].map .sh)) (fun m' fin => m' = .sh (standD (mvH gs hs m) (ls.set m.2 (some m.1))) ∧ fin = [webD r gs bars, standD hs ls, .int m.1, .int m.2].map .sh) :=
  moved_specM h.mov h.bey h.isp h.rep h.ends h.bet h.may h.int S.pb P S.hl S.gl S.wl
theorem mvs_get {ms : List Mv} {d : D} {i : Nat} (h : (ms.map mvD)[i]? = some d) : ∃ m, ms[i]? = some m ∧ d = .tuple [.int m.1, .int m.2] := by
  rw [List.getElem?_map, Option.map_eq_some_iff] at h
  obtain ⟨m, hm, rfl⟩ := h
  exact ⟨m, hm, rfl⟩
theorem played_specM {k f im : Nat} {I : MvIx} (hf : prog[f]? = some (M_played im)) (h : HasMv prog im I) {r : Int} {gs : List Gt} {bars : List D} {hs : List Int} {ls : List (Option Nat)} (S : Stand gs bars hs ls) {ms : List Mv} (V : Valid gs bars hs ms) :
    Ret (run prog fuel (k + 5) f ([webD r gs bars, standD hs ls, .list (ms.map mvD)].map .sh)) (fun m fin => m = .sh (standD (plH gs hs ms) (plO ls ms)) ∧ fin = [webD r gs bars, standD hs ls, .list (ms.map mvD)].map .sh) := by
  refine ret_run (fd := M_played im) hf rfl (Nat.le_of_ble_eq_true rfl) rfl ?_
  simp [M_played]
  refine wp_forL (fun i ρ => ∃ x3 x4, ρ = [some (.sh (webD r gs bars)), some (.sh (standD (plH gs hs (ms.take i)) (plO ls (ms.take i)))), some (.sh (.list (ms.map mvD))), x3, x4] ∧ Lo x3 ∧ Lo x4)
    ⟨none, none, rfl, .inl rfl, .inl rfl⟩ ?_ ?_
  · rintro i d ρ hd ⟨x3, x4, rfl, l3, l4⟩
    obtain ⟨m, hm, rfl⟩ := mvs_get hd
    simp [l3.free, l4.free]
    refine call_sh (ds := [webD r gs bars, standD (plH gs hs (ms.take i)) (plO ls (ms.take i)), .int m.1, .int m.2]) rfl (by simp) (mv_spec (k := k) h (S.go _) (V i m hm)) ?_
    simp
    refine ⟨_, _, by rw [take_snoc hm, plH_snoc, plO_snoc], .sh _, .sh _⟩
  · rintro ρ ⟨x3, x4, rfl, l3, l4⟩
    rw [List.length_map, List.take_length]
    simp
theorem eq_own (o : Option Nat) (w : Nat) : opCmp .eq (ownD o) (.int w) = some (decide (o = some w)) := by
  cases o with
  | none => rfl
  | some n =>
    show opCmp .eq (.int n) (.int w) = _
    rw [eq_i]
    congr 1
    simp
    omega
theorem answer_specM {k f ip : Nat} {I : MvIx} (hf : prog[f]? = some (M_answer I.isp ip)) (hp : prog[ip]? = some M_price) {im : Nat} (h : HasMv prog im I) {r : Int} {gs : List Gt} {bars : List D} {hs : List Int} {ls : List (Option Nat)} (S : Stand gs bars hs ls) {m : Mv} (P : Poss gs bars hs m) :
    Ret (run prog fuel (k + 4) f ([webD r gs bars, standD hs ls, .int m.1, .int m.2].map .sh)) (fun m' fin => m' = .sh (ansD (ansT gs ls m)) ∧ fin = [webD r gs bars, standD hs ls, .int m.1, .int m.2].map .sh) := by
  obtain ⟨p, gt, h1, h2, h3, h4⟩ := P.ex
  have l2 := lt_natA h2
  refine ret_run (fd := M_answer I.isp ip) hf rfl (Nat.le_of_ble_eq_true rfl) rfl ?_
  simp [M_answer]
  refine call_sh (ds := [webD r gs bars, standD hs ls, .int m.1, .int m.2]) rfl (by simp) (isp_specM (k := k) h.isp h.ends h.bet h.may h.int S.pb P) ?_
  simp [standD, truth, get_own (ls := ls) (g := m.2) (by rw [S.hl]; exact l2), eq_own]
  refine wpI_of (fun q => ?_) fun q => ?_
  · have q : (ls[m.2]?).join = some m.1 := by simpa using q
    simp [ansT, q, ansD, ownD]
  · have q : ¬ (ls[m.2]?).join = some m.1 := by simpa using q
    refine call_sh (ds := [webD r gs bars, .int m.2]) rfl (by simp) (price_specM (k := k + 2) hp h2) ?_
    simp [ansT, q, ansD, priceT, h2]
theorem answers_specM {k f ia im ip : Nat} {I : MvIx} (hf : prog[f]? = some (M_answers ia im)) (ha : prog[ia]? = some (M_answer I.isp ip)) (hp : prog[ip]? = some M_price) (h : HasMv prog im I) {r : Int} {gs : List Gt} {bars : List D} {hs : List Int} {ls : List (Option Nat)} (S : Stand gs bars hs ls) {ms : List Mv} (V : Valid gs bars hs ms) (ml : ms.length ≤ 10000) :
    Ret (run prog fuel (k + 5) f ([webD r gs bars, standD hs ls, .list (ms.map mvD)].map .sh)) (fun m fin => m = .ol false ((tolds gs ls ms).map ansD) ∧ fin = [webD r gs bars, standD hs ls, .list (ms.map mvD)].map .sh) := by
  refine ret_run (fd := M_answers ia im) hf rfl (Nat.le_of_ble_eq_true rfl) rfl ?_
  simp [M_answers]
  refine wp_forL (fun i ρ => ∃ x4 x5, ρ = [some (.sh (webD r gs bars)), some (.sh (standD (plH gs hs (ms.take i)) (plO ls (ms.take i)))), some (.sh (.list (ms.map mvD))), some (.ol false ((tolds gs ls (ms.take i)).map ansD)), x4, x5] ∧ Lo x4 ∧ Lo x5)
    ⟨none, none, rfl, .inl rfl, .inl rfl⟩ ?_ ?_
  · rintro i d ρ hd ⟨x3, x4, rfl, l3, l4⟩
    obtain ⟨m, hm, rfl⟩ := mvs_get hd
    have hi := lt_natA hm
    simp [l3.free, l4.free]
    refine call_sh (ds := [webD r gs bars, standD (plH gs hs (ms.take i)) (plO ls (ms.take i)), .int m.1, .int m.2]) rfl (by simp) (answer_specM (k := k) ha hp h (S.go _) (V i m hm)) ?_
    simp
    refine ⟨by rw [tolds_len, List.length_take]; omega, ?_⟩
    refine call_sh (ds := [webD r gs bars, standD (plH gs hs (ms.take i)) (plO ls (ms.take i)), .int m.1, .int m.2]) rfl (by simp) (mv_spec (k := k) h (S.go _) (V i m hm)) ?_
    simp
    refine ⟨some (.sh (.int m.1)), some (.sh (.int m.2)), by rw [take_snoc hm, plH_snoc, plO_snoc, tolds_snoc]; simp, .sh _, .sh _⟩
  · rintro ρ ⟨x3, x4, rfl, l3, l4⟩
    rw [List.length_map, List.take_length]
    simp
/-! ### worths -/
def ownG (gs : List Gt) (w : Nat) : D → Option D
  | .tuple [.int k, .int v] => if v = w then some (.int (priceT gs k.toNat)) else none
  | _ => none
theorem own_map (gs : List Gt) (w : Nat) : ∀ (ls : List (Option Nat)) (k : Nat), (enumD k (ls.map ownD)).filterMap (ownG gs w) = (ownL gs w k ls).map PyData.int
  | [], k => rfl
  | o :: ls, k => by
    have ih := own_map gs w ls (k + 1)
    show (enumD k (ownD o :: ls.map ownD)).filterMap (ownG gs w) = _
    simp only [enumD, List.filterMap_cons, ownL]
    rw [ih]
    cases o with
    | none => rfl
    | some v =>
      have e : ownG gs w (.tuple [.int (k : Int), ownD (some v)]) = if (v : Int) = w then some (.int (priceT gs k)) else none := rfl
      rw [e]
      by_cases h : v = w
      · subst h; simp
      · have h' : ¬ (v : Int) = w := by omega
        simp [h, h']
theorem ints_map : ∀ xs : List Int, intsOf (xs.map PyData.int) = some xs
  | [] => rfl
  | x :: xs => by simp [intsOf, ints_map xs]
theorem sum_l (xs : List Int) : opB1 .sum (.list (xs.map PyData.int)) = some (.val (.int xs.sum)) := by
  show (intsOf _).map _ = _
  rw [ints_map]
  rfl
theorem sum_t (xs : List Int) : opB1 .sum (.tuple (xs.map PyData.int)) = some (.val (.int xs.sum)) := by
  show (intsOf _).map _ = _
  rw [ints_map]
  rfl
theorem own_specM {k f ip : Nat} (hf : prog[f]? = some (M_own_prices ip)) (hp : prog[ip]? = some M_price) {r : Int} {gs : List Gt} {bars : List D} {ls : List (Option Nat)} (gl : gs.length ≤ 24) (hl : ls.length = gs.length) (w : Nat) :
    Ret (run prog fuel (k + 2) f ([webD r gs bars, .tuple (ls.map ownD), .int w].map .sh)) (fun m fin => m = .sh (.int (ownP gs ls w)) ∧ fin = [webD r gs bars, .tuple (ls.map ownD), .int w].map .sh) := by
  refine ret_run (fd := M_own_prices ip) hf rfl (Nat.le_of_ble_eq_true rfl) rfl ?_
  simp [M_own_prices]
  refine wp_pure (ownG gs w) rfl (by rw [enumD_lenA, List.length_map, hl]; exact Nat.le_trans gl (by decide)) (fun x hx => ?_) ?_
  · obtain ⟨i, o, hi, rfl⟩ := enum_map hx
    have l1 := lt_natA hi
    obtain ⟨gt, hg⟩ : ∃ gt, gs[i]? = some gt := ⟨gs[i]'(by omega), by simp⟩
    simp [wipeE, Tg.vars, Tg.varss, eq_own]
    refine wpI_of (fun h => ?_) fun h => ?_
    · have h : o = some w := by simpa using h
      subst h
      refine call_sh (ds := [webD r gs bars, .int i]) rfl (by simp) (price_specM (k := k) hp hg) ?_
      simp [ownG, ownD, wipeE, Tg.vars, Tg.varss, priceT, hg]
    · have h : ¬ o = some w := by simpa using h
      cases o with
      | none => simp [ownG, ownD, wipeE, Tg.vars, Tg.varss]
      | some v =>
        have h : ¬ v = w := fun z => h (by rw [z])
        simp [ownG, ownD, wipeE, Tg.vars, Tg.varss]
        omega
  · rw [own_map]
    simp [sum_l, ownP]
def addG (gs : List Gt) (ls : List (Option Nat)) : D → Option D
  | .tuple [.int k, .int c] => some (.int (c + ownP gs ls k.toNat))
  | _ => none
def subG (gs : List Gt) (ls : List (Option Nat)) : D → Option D
  | .tuple [.int k, .int c] => some (.int (c - ownP gs ls k.toNat))
  | _ => none
theorem add_map (gs : List Gt) (ls : List (Option Nat)) : ∀ (cs : List Int) (k : Nat), (enumD k (cs.map PyData.int)).filterMap (addG gs ls) = (worthT gs ls k cs).map PyData.int
  | [], k => rfl
  | c :: cs, k => by
    have ih := add_map gs ls cs (k + 1)
    show (enumD k (PyData.int c :: cs.map PyData.int)).filterMap (addG gs ls) = _
    simp only [enumD, List.filterMap_cons, worthT]
    rw [ih]
    rfl
theorem sub_map (gs : List Gt) (ls : List (Option Nat)) : ∀ (cs : List Int) (k : Nat), (enumD k (cs.map PyData.int)).filterMap (subG gs ls) = (purseT gs ls k cs).map PyData.int
  | [], k => rfl
  | c :: cs, k => by
    have ih := sub_map gs ls cs (k + 1)
    show (enumD k (PyData.int c :: cs.map PyData.int)).filterMap (subG gs ls) = _
    simp only [enumD, List.filterMap_cons, purseT]
    rw [ih]
    rfl
theorem worths_specM {k f io ip : Nat} (hf : prog[f]? = some (M_worths io)) (ho : prog[io]? = some (M_own_prices ip)) (hp : prog[ip]? = some M_price) {r : Int} {gs : List Gt} {bars : List D} {hs : List Int} {ls : List (Option Nat)} (S : Stand gs bars hs ls) {cs : List Int} (cl : cs.length ≤ 1000) :
    Ret (run prog fuel (k + 3) f ([webD r gs bars, standD hs ls, .tuple (cs.map .int)].map .sh)) (fun m fin => m = .sh (.tuple ((worthT gs ls 0 cs).map .int)) ∧ fin = [webD r gs bars, standD hs ls, .tuple (cs.map .int)].map .sh) := by
  refine ret_run (fd := M_worths io) hf rfl (Nat.le_of_ble_eq_true rfl) rfl ?_
  simp [M_worths, standD]
  refine wp_pure (addG gs ls) rfl (by rw [enumD_lenA, List.length_map]; exact Nat.le_trans cl (by decide)) (fun x hx => ?_) ?_
  · obtain ⟨i, c, hi, rfl⟩ := enum_map hx
    simp [wipeE, Tg.vars, Tg.varss]
    refine call_sh (ds := [webD r gs bars, .tuple (ls.map ownD), .int i]) rfl (by simp) (own_specM (k := k) ho hp S.gl S.hl i) ?_
    simp [addG, wipeE, Tg.vars, Tg.varss]
  · rw [add_map]
    simp
theorem purses_specM {k f io ip : Nat} (hf : prog[f]? = some (M_purses_of io)) (ho : prog[io]? = some (M_own_prices ip)) (hp : prog[ip]? = some M_price) {r : Int} {gs : List Gt} {bars : List D} {hs : List Int} {ls : List (Option Nat)} (S : Stand gs bars hs ls) {cs : List Int} (cl : cs.length ≤ 1000) :
    Ret (run prog fuel (k + 3) f ([webD r gs bars, standD hs ls, .tuple (cs.map .int)].map .sh)) (fun m fin => m = .sh (.tuple ((purseT gs ls 0 cs).map .int)) ∧ fin = [webD r gs bars, standD hs ls, .tuple (cs.map .int)].map .sh) := by
  refine ret_run (fd := M_purses_of io) hf rfl (Nat.le_of_ble_eq_true rfl) rfl ?_
  simp [M_purses_of, standD]
  refine wp_pure (subG gs ls) rfl (by rw [enumD_lenA, List.length_map]; exact Nat.le_trans cl (by decide)) (fun x hx => ?_) ?_
  · obtain ⟨i, c, hi, rfl⟩ := enum_map hx
    simp [wipeE, Tg.vars, Tg.varss]
    refine call_sh (ds := [webD r gs bars, .tuple (ls.map ownD), .int i]) rfl (by simp) (own_specM (k := k) ho hp S.gl S.hl i) ?_
    simp [subG, wipeE, Tg.vars, Tg.varss]
  · rw [sub_map]
    simp
end MI
namespace MI
open PySem
def Fr (x : Option M) : Prop := Lo x ∨ ∃ l, x = some (.ol false l)
theorem Fr.free {x : Option M} (h : Fr x) (ρ : Env) : MI.free (x :: ρ) 0 = true := by
  rcases h with h | ⟨l, rfl⟩
  · exact h.free ρ
  · simp
theorem Fr.lo {x : Option M} (h : Lo x) : Fr x := .inl h
theorem Fr.ol (l : List D) : Fr (some (.ol false l)) := .inr ⟨l, rfl⟩
/-- a call that keeps nothing and lends nothing, whatever it gives -/
theorem call_ret {cx : Cxt} {f : Nat} {ρ : Env} {ds : List D} {src : List Arg} {P : M → Prop} {Q : R → Env → Prop} (hsrc : src = (List.range ds.length).map .e) (hl : ds.length ≤ 4) (hr : Ret (cx.φ f (ds.map .sh)) (fun m fin => P m ∧ fin = ds.map .sh)) (h : ∀ m, P m → Q m.res ρ) : Wp (callR cx f (ds.map .val) src ρ) Q := by
  subst hsrc
  match ds, hl with
  | [], _ =>
    refine wp_call (ms := []) ?_ ?_ (by simp [srcOk, List.range_succ]) hr ?_
    · simp [argsOf, R.arg, List.range_succ]
    · simp [ownsOf, List.range_succ]
    · rintro m fin ⟨pm, rfl⟩
      exact ⟨rfl, by simpa [ownsOf, List.range_succ, backOf] using h m pm⟩
  | [d1], _ =>
    refine wp_call (ms := [.sh d1]) ?_ ?_ (by simp [srcOk, List.range_succ]) hr ?_
    · simp [argsOf, R.arg, List.range_succ]
    · simp [ownsOf, List.range_succ]
    · rintro m fin ⟨pm, rfl⟩
      exact ⟨rfl, by simpa [ownsOf, List.range_succ, backOf] using h m pm⟩
  | [d1, d2], _ =>
    refine wp_call (ms := [.sh d1, .sh d2]) ?_ ?_ (by simp [srcOk, List.range_succ]) hr ?_
    · simp [argsOf, R.arg, List.range_succ]
    · simp [ownsOf, List.range_succ]
    · rintro m fin ⟨pm, rfl⟩
      exact ⟨rfl, by simpa [ownsOf, List.range_succ, backOf] using h m pm⟩
  | [d1, d2, d3], _ =>
    refine wp_call (ms := [.sh d1, .sh d2, .sh d3]) ?_ ?_ (by simp [srcOk, List.range_succ]) hr ?_
    · simp [argsOf, R.arg, List.range_succ]
    · simp [ownsOf, List.range_succ]
    · rintro m fin ⟨pm, rfl⟩
      exact ⟨rfl, by simpa [ownsOf, List.range_succ, backOf] using h m pm⟩
  | [d1, d2, d3, d4], _ =>
    refine wp_call (ms := [.sh d1, .sh d2, .sh d3, .sh d4]) ?_ ?_ (by simp [srcOk, List.range_succ]) hr ?_
    · simp [argsOf, R.arg, List.range_succ]
    · simp [ownsOf, List.range_succ]
    · rintro m fin ⟨pm, rfl⟩
      exact ⟨rfl, by simpa [ownsOf, List.range_succ, backOf] using h m pm⟩
theorem pick_map {α : Type} {f : α → D} {xs : List α} {v : Int} (h0 : 0 ≤ v) (h1 : v < xs.length) : ∃ x, x ∈ xs ∧ atD (xs.map f) v = some (f x) := by
  have hl : v.toNat < xs.length := by omega
  exact ⟨xs[v.toNat], List.getElem_mem hl, at_lt h0 (by rw [List.length_map]; exact h1) (by simp [hl])⟩
theorem at_last (xs : List D) (x : D) : atD (xs ++ [x]) (-1) = some x := by
  have e : ixOf (xs ++ [x]).length (-1) = some xs.length := by
    unfold ixOf
    rw [if_neg (by decide), if_pos (by rw [List.length_append]; simp; omega)]
    congr 1
    rw [List.length_append]
    simp
    omega
  show (ixOf (xs ++ [x]).length (-1)).bind _ = _
  rw [e]
  simp
theorem zip_ll (xs ys : List D) : zipOf (.list xs) (.list ys) = some (zipD xs ys) := rfl
theorem zipD_map {α β : Type} (f : α → D) (g : β → D) : ∀ (xs : List α) (ys : List β), zipD (xs.map f) (ys.map g) = (xs.zip ys).map fun z => .tuple [f z.1, g z.2]
  | [], ys => by cases ys <;> rfl
  | x :: xs, [] => rfl
  | x :: xs, y :: ys => by
    show _ :: zipD (xs.map f) (ys.map g) = _
    rw [zipD_map f g xs ys]
    rfl
theorem get_int {xs : List Int} {i : Nat} (h : i < xs.length) : atD (xs.map PyData.int) i = some (.int (xs[i]?.getD 0)) := by
  apply at_natA
  rw [List.getElem?_map, List.getElem?_eq_getElem h]
  rfl
end MI
namespace MI
open PySem
/-! ### labels against parts: the same kernel -/
abbrev Row := List Int
def atR (row : Row) (i : Int) : Int := row[i.toNat]?.getD 0
def mgT (row : Row) (a b : Int) : Row := row.map fun x => if x = atR row b then atR row a else x
def mnT (row : Row) (a b : Int) : Row := row.map fun x => if x = atR row a ∨ x = atR row b then min (atR row a) (atR row b) else x
structure SameK (r : Nat) (x y : Row) : Prop where
  lx : x.length = r
  ly : y.length = r
  kr : ∀ i j, i < r → j < r → (x[i]?.getD 0 = x[j]?.getD 0 ↔ y[i]?.getD 0 = y[j]?.getD 0)
theorem mg_iff (a b u v : Int) : (if u = b then a else u) = (if v = b then a else v) ↔ u = v ∨ ((u = a ∨ u = b) ∧ (v = a ∨ v = b)) := by
  split <;> split <;> omega
theorem mn_iff (a b u v : Int) : (if u = a ∨ u = b then min a b else u) = (if v = a ∨ v = b then min a b else v) ↔ u = v ∨ ((u = a ∨ u = b) ∧ (v = a ∨ v = b)) := by
  split <;> split <;> omega
theorem map_at {f : Int → Int} {x : Row} {i : Nat} (h : i < x.length) : (x.map f)[i]?.getD 0 = f (x[i]?.getD 0) := by
  rw [List.getElem?_map, List.getElem?_eq_getElem h]
  rfl
theorem SameK.step {r : Nat} {x y : Row} {a b : Int} (S : SameK r x y) (a0 : 0 ≤ a) (a1 : a < r) (b0 : 0 ≤ b) (b1 : b < r) : SameK r (mgT x a b) (mnT y a b) := by
  refine ⟨by unfold mgT; rw [List.length_map]; exact S.lx, by unfold mnT; rw [List.length_map]; exact S.ly, fun i j hi hj => ?_⟩
  unfold mgT mnT
  rw [map_at (by rw [S.lx]; exact hi), map_at (by rw [S.lx]; exact hj), map_at (by rw [S.ly]; exact hi), map_at (by rw [S.ly]; exact hj)]
  rw [mg_iff, mn_iff]
  unfold atR
  have k := S.kr
  rw [k i j hi hj, k i a.toNat hi (by omega), k i b.toNat hi (by omega), k j a.toNat hj (by omega), k j b.toNat hj (by omega)]
def freeG (bars : List D) (w g : Nat) : Bool := !barB bars w g
def lstep (f : Row → Int → Int → Row) (gs : List Gt) (bars : List D) (w : Nat) (row : Row) (g : Nat) : Row := if freeG bars w g then (match gs[g]? with
  | some gt => f row gt.1 gt.2.1
  | none => row) else row
def labT (f : Row → Int → Int → Row) (gs : List Gt) (bars : List D) (w : Nat) (row : Row) (lot : List Nat) : Row := lot.foldl (lstep f gs bars w) row
def firstR (r : Nat) : Row := (List.range r).map fun (i : Nat) => (i : Int)
theorem firstR_len (r : Nat) : (firstR r).length = r := by simp [firstR]
theorem SameK.refl {r : Nat} {x : Row} (h : x.length = r) : SameK r x x := ⟨h, h, fun _ _ _ _ => Iff.rfl⟩
theorem SameK.all {r : Nat} {gs : List Gt} (hg : ∀ g ∈ gs, GateA r g) {bars : List D} {w : Nat} : ∀ {lot : List Nat} {x y : Row}, SameK r x y → SameK r (labT mgT gs bars w x lot) (labT mnT gs bars w y lot)
  | [], x, y, S => S
  | g :: lot, x, y, S => by
    refine SameK.all hg (lot := lot) ?_
    unfold lstep
    split
    · split
      · rename_i gt hgt
        obtain ⟨h1, h2, h3, h4, _⟩ := hg gt (List.mem_of_getElem? hgt)
        exact S.step h1 h2 h3 h4
      · exact S
    · exact S
theorem mgT_len (x : Row) (a b : Int) : (mgT x a b).length = x.length := by simp [mgT]
theorem mnT_len (x : Row) (a b : Int) : (mnT x a b).length = x.length := by simp [mnT]
theorem labT_len {f : Row → Int → Int → Row} (hf : ∀ x a b, (f x a b).length = x.length) (gs : List Gt) (bars : List D) (w : Nat) : ∀ (lot : List Nat) (x : Row), (labT f gs bars w x lot).length = x.length
  | [], x => rfl
  | g :: lot, x => by
    show (labT f gs bars w (lstep f gs bars w x g) lot).length = _
    rw [labT_len hf gs bars w lot]
    unfold lstep
    split
    · split
      · exact hf _ _ _
      · rfl
    · rfl
theorem labT_snoc (f : Row → Int → Int → Row) (gs : List Gt) (bars : List D) (w : Nat) (row : Row) (lot : List Nat) (g : Nat) : labT f gs bars w row (lot ++ [g]) = lstep f gs bars w (labT f gs bars w row lot) g := by simp [labT]
/-- a place and the two ends of a gate: one part -/
def nearR (row : Row) (p a b : Int) : Bool := atR row p == atR row a || atR row p == atR row b
theorem SameK.at {r : Nat} {x y : Row} (S : SameK r x y) {p q : Int} (p0 : 0 ≤ p) (p1 : p < r) (q0 : 0 ≤ q) (q1 : q < r) : (atR x p == atR x q) = (atR y p == atR y q) := by
  have := S.kr p.toNat q.toNat (by omega) (by omega)
  unfold atR
  by_cases h : y[p.toNat]?.getD 0 = y[q.toNat]?.getD 0
  · rw [this.mpr h, h]
    simp
  · have h' := fun z => h (this.mp z)
    rw [beq_eq_false_iff_ne.mpr h, beq_eq_false_iff_ne.mpr h']
theorem SameK.near {r : Nat} {x y : Row} (S : SameK r x y) {p a b : Int} (p0 : 0 ≤ p) (p1 : p < r) (a0 : 0 ≤ a) (a1 : a < r) (b0 : 0 ≤ b) (b1 : b < r) : nearR x p a b = nearR y p a b := by
  unfold nearR
  rw [S.at p0 p1 a0 a1, S.at p0 p1 b0 b1]
/-- the labels of walker w behind the gates of a lot -/
def labW (f : Row → Int → Int → Row) (gs : List Gt) (bars : List D) (r : Nat) (lot : List Nat) (w : Nat) : Row := labT f gs bars w (firstR r) lot
theorem same_lab {r : Nat} {gs : List Gt} (hg : ∀ g ∈ gs, GateA r g) {bars : List D} {lot : List Nat} {w : Nat} : SameK r (labW mgT gs bars r lot w) (labW mnT gs bars r lot w) := SameK.all hg (.refl (firstR_len r))
theorem labW_len (r : Nat) (gs : List Gt) (bars : List D) (lot : List Nat) (w : Nat) : (labW mgT gs bars r lot w).length = r := by
  unfold labW
  rw [labT_len mgT_len, firstR_len]
theorem labW_len' (r : Nat) (gs : List Gt) (bars : List D) (lot : List Nat) (w : Nat) : (labW mnT gs bars r lot w).length = r := by
  unfold labW
  rw [labT_len mnT_len, firstR_len]
def rowD (row : Row) : D := .list (row.map .int)
/-- all walkers' labels -/
def rowsD (F : Nat → Row) (W : Nat) : D := .list ((List.range W).map fun w => rowD (F w))
/-! ### a comprehension over items by their numbers -/
theorem wp_idx {cx : Cxt} {elt : Ex} {tg : Tg} {items : List D} {ρ1 : Env} {Q : R → Env → Prop} (n : Nat) (G : Nat → D) (hn : items.length = n) (hk : keepOk tg.vars ρ1 = true) (hl : n ≤ Lim)
    (step : ∀ j d, j < n → items[j]? = some d → wpO (Tg.put tg d (wipeE ρ1 tg.vars)) fun ρ => Wp (evE cx elt ρ) fun r ρ => Wp (MI.frz r ρ) fun x ρ => x = G j ∧ wipeE ρ tg.vars = wipeE ρ1 tg.vars)
    (q : Q (.new ((List.range n).map G)) ρ1) : wpC cx elt tg none items ρ1 Q := by
  have hv : ∀ v ∈ tg.vars, v < ρ1.length := fun v hv => by
    have := List.all_eq_true.mp hk v hv
    simp only [Bool.and_eq_true, decide_eq_true_eq] at this
    exact this.1
  refine ⟨hk, wp_compL (fun i acc ρ => acc = (List.range i).map G ∧ wipeE ρ tg.vars = wipeE ρ1 tg.vars) ⟨rfl, rfl⟩ (fun i d acc ρ hd ⟨ha, hw⟩ => ?_) fun acc ρ ⟨ha, hw⟩ => ?_⟩
  · have hlt : i < items.length := (List.getElem?_eq_some_iff.mp hd).1
    have st := step i d (by omega) hd
    rw [q_turn, hw]
    cases hp : Tg.put tg d (wipeE ρ1 tg.vars) with
    | none => rw [hp] at st; exact st
    | some ρ2 =>
      rw [hp] at st
      rw [wpO_some, q_cond0, wpI_true]
      refine Wp.mono (show Wp (evE cx elt ρ2) _ from st) fun r ρ4 h => Wp.mono h fun x ρ5 h => ?_
      subst ha
      refine ⟨?_, ?_, h.2⟩
      · rw [List.length_map, List.length_range]
        have : n ≤ 16777216 := hl
        show i < 16777216
        omega
      · rw [List.range_succ, List.map_append, h.1]
        rfl
  · rw [back_same hw hv, ha, hn]
    exact q
theorem rng_first (n : Nat) : rngD 0 n 1 = (firstR n).map .int := by
  unfold rngD firstR
  rw [List.map_map]
  apply List.map_congr_left
  intro k _
  simp
theorem rng_nat (n : Nat) : rngD 0 n 1 = (List.range n).map natD := by
  unfold rngD
  apply List.map_congr_left
  intro k _
  simp [natD]
end MI
namespace MI
open PySem
/-! ### labels and parts: the functions -/
def L_first_labels : Fd := ⟨2, 3, [.ret (.comp (.lit (.rng [.idx (.var 0) (.int 0)]) false) (.name 2) (.rng [.var 1]) none)]⟩
def L_merged : Fd := ⟨3, 4, [.ret (.comp (.ite (.cmp .eq (.var 3) (.idx (.var 0) (.var 2))) (.idx (.var 0) (.var 1)) (.var 3)) (.name 3) (.seq (.var 0)) none)]⟩
def L_labels_behind (i_ends : Nat) (i_may_pass : Nat) (i_merged : Nat) : Fd := ⟨3, 7, [.unp [3, 4] (.call i_ends [.var 0, .var 2] [true, true] [.e 0, .e 1]), .ret (.comp (.ite (.call i_may_pass [.var 0, .var 5, .var 2] [true, false, false] [.e 0, .e 1, .e 2]) (.call i_merged [.var 6, .var 3, .var 4] [false, true, true] [.e 0, .e 1, .e 2]) (.var 6)) (.tup [.name 5, .name 6]) (.enum (.var 1)) none)]⟩
def L_labels_by (i_first_labels : Nat) (i_labels_behind : Nat) : Fd := ⟨3, 5, [.asg 3 (.call i_first_labels [.var 0, .var 1] [true, false] [.e 0, .e 1]), .for (.name 4) (.seq (.var 2)) [.asg 3 (.call i_labels_behind [.var 0, .var 3, .var 4] [true, false, false] [.e 0, .e 1, .e 2])], .ret (.var 3)]⟩
def L_is_near (i_ends : Nat) : Fd := ⟨5, 8, [.unp [5, 6] (.call i_ends [.var 0, .var 3] [true, true] [.e 0, .e 1]), .ret (.bi1 .any (.comp (.cmp .isin (.idx (.idx (.var 1) (.var 7)) (.idx (.var 2) (.var 7))) (.tup [.idx (.idx (.var 1) (.var 7)) (.var 5), .idx (.idx (.var 1) (.var 7)) (.var 6)])) (.name 7) (.seq (.var 4)) none))]⟩
def L_hosts_of (i_may_pass : Nat) : Fd := ⟨3, 3, [.ret (.ite (.or (.cmp .isN (.var 2) (.non)) (.not (.call i_may_pass [.var 0, .var 2, .var 1] [true, false, false] [.e 0, .e 1, .e 2]))) (.tup []) (.tup [.var 2]))]⟩
def L_are_gates (i_is_between : Nat) : Fd := ⟨2, 3, [.ret (.and (.isa (.var 1) [.tuple] false) (.bi1 .all (.comp (.call i_is_between [.var 2, .int 0, .bin .sub (.bi1 .len (.idx (.var 0) (.int 1))) (.int 1)] [true, true, true] [.e 0, .e 1, .e 2]) (.name 2) (.seq (.var 1)) none)))]⟩
def L_is_lot (i_are_gates : Nat) : Fd := ⟨2, 4, [.ret (.and (.call i_are_gates [.var 0, .var 1] [true, false] [.e 0, .e 1]) (.bi1 .all (.comp (.cmp .lt (.var 2) (.var 3)) (.tup [.name 2, .name 3]) (.zip (.var 1) (.sl (.var 1) (some (.int 1)) none)) none)))]⟩
def L_outside_of : Fd := ⟨2, 3, [.ret (.comp (.var 2) (.name 2) (.rng [.bi1 .len (.idx (.var 0) (.int 1))]) (some (.cmp .notin (.var 2) (.var 1))))]⟩
def L_is_closed (i_is_near : Nat) (i_labels_by : Nat) (i_outside_of : Nat) : Fd := ⟨4, 6, [.asg 4 (.call i_labels_by [.var 0, .bi1 .len (.var 1), .call i_outside_of [.var 0, .var 3] [true, true] [.e 0, .e 1]] [true, false, false] [.e 0, .e 1, .e 2]), .ret (.not (.bi1 .any (.comp (.call i_is_near [.var 0, .var 4, .var 1, .var 5, .idx (.var 2) (.var 5)] [true, true, true, true, false] [.e 0, .e 1, .e 2, .e 3, .e 4]) (.name 5) (.seq (.var 3)) none)))]⟩
def L_is_open : Fd := ⟨1, 1, [.ret (.cmp .eq (.var 0) (.glo "ANY" (.str (PySem.Str.ofString "any"))))]⟩
def L_wished_hosts (i_hosts_of : Nat) (i_is_open : Nat) (i_may_pass : Nat) : Fd := ⟨2, 8, [.unp [3, 4] (.var 1), .asg 2 (.lst []), .for (.tup [.name 5, .name 6]) (.enum (.var 4)) [.ite (.call i_is_open [.var 6] [true] [.e 0]) [.expr (.mu .append 2 [.bi1 .tuple (.comp (.var 7) (.name 7) (.rng [.bi1 .len (.var 3)]) (some (.call i_may_pass [.var 0, .var 7, .var 5] [true, false, false] [.e 0, .e 1, .e 2])))])] [.expr (.mu .append 2 [.call i_hosts_of [.var 0, .var 5, .var 6] [true, false, false] [.e 0, .e 1, .e 2]])]], .ret (.var 2)]⟩
def C_parts : Fd := ⟨3, 8, [.asg 3 (.lit (.rng [.idx (.var 0) (.int 0)]) false), .for (.name 4) (.seq (.var 2)) [.ite (.cmp .notin (.tup [.var 1, .var 4]) (.idx (.var 0) (.int 2))) [.asg 5 (.comp (.idx (.var 3) (.var 6)) (.name 6) (.seq (.sl (.idx (.idx (.var 0) (.int 1)) (.var 4)) none (some (.int 2)))) none), .asg 3 (.comp (.ite (.cmp .isin (.var 7) (.var 5)) (.bi1 .min (.var 5)) (.var 7)) (.name 7) (.seq (.var 3)) none)] []], .ret (.var 3)]⟩
def C_is_near : Fd := ⟨5, 10, [.unp [6, 7, 8] (.idx (.idx (.var 0) (.int 1)) (.var 3)), .for (.name 5) (.seq (.var 4)) [.asg 9 (.idx (.idx (.var 1) (.var 5)) (.idx (.var 2) (.var 5))), .ite (.and (.cmp .notin (.tup [.var 5, .var 3]) (.idx (.var 0) (.int 2))) (.cmp .isin (.var 9) (.tup [.idx (.idx (.var 1) (.var 5)) (.var 6), .idx (.idx (.var 1) (.var 5)) (.var 7)]))) [.ret (.bl true)] []], .ret (.bl false)]⟩
def C_table (i_parts : Nat) : Fd := ⟨3, 4, [.ret (.comp (.call i_parts [.var 0, .var 3, .var 2] [true, false, false] [.e 0, .e 1, .e 2]) (.name 3) (.rng [.bi1 .len (.var 1)]) none)]⟩
def C_hosts : Fd := ⟨2, 3, [.asg 2 (.idx (.idx (.var 0) (.int 1)) (.var 1)), .ite (.cmp .isN (.var 2) (.non)) [.ret (.lst [])] [], .ret (.ite (.cmp .eq (.var 2) (.str "any")) (.lit (.rng [.bi1 .len (.idx (.var 0) (.int 0))]) false) (.lst [.var 2]))]⟩
def C_loose (i_hosts : Nat) (i_is_near : Nat) (i_table : Nat) : Fd := ⟨3, 9, [.asg 3 (.lst []), .for (.name 4) (.rng [.bi1 .len (.idx (.var 0) (.int 1))]) [.asg 5 (.call i_table [.var 0, .idx (.var 1) (.int 0), .var 3] [true, true, false] [.e 0, .e 1, .e 2]), .asg 6 (.comp (.var 8) (.name 8) (.rng [.bi1 .len (.idx (.var 0) (.int 1))]) (some (.and (.cmp .notin (.var 8) (.var 3)) (.cmp .ne (.var 8) (.var 2))))), .asg 7 (.comp (.var 8) (.name 8) (.seq (.var 6)) (some (.call i_is_near [.var 0, .var 5, .idx (.var 1) (.int 0), .var 8, .call i_hosts [.var 1, .var 8] [true, true] [.e 0, .e 1]] [true, true, true, false, false] [.e 0, .e 1, .e 2, .e 3, .e 4]))), .ite (.cmp .eq (.var 7) (.lst [])) [.ret (.bi1 .sorted (.var 3))] [], .asg 3 (.bin .add (.var 3) (.var 7))], .ret (.bi1 .sorted (.var 3))]⟩
variable {prog : List Fd} {fuel : Nat}
/-- a call with five shared values -/
theorem call_sh5 {cx : Cxt} {f : Nat} {ρ : Env} {d1 d2 d3 d4 d5 d : D} {src : List Arg} {Q : R → Env → Prop} (hsrc : src = [.e 0, .e 1, .e 2, .e 3, .e 4]) (hr : Ret (cx.φ f ([d1, d2, d3, d4, d5].map .sh)) (fun m fin => m = .sh d ∧ fin = [d1, d2, d3, d4, d5].map .sh)) (h : Q (.val d) ρ) : Wp (callR cx f [.val d1, .val d2, .val d3, .val d4, .val d5] src ρ) Q := by
  subst hsrc
  refine wp_call (ms := [.sh d1, .sh d2, .sh d3, .sh d4, .sh d5]) ?_ ?_ (by simp [srcOk]) hr ?_
  · simp [argsOf, R.arg]
  · simp [ownsOf]
  · rintro m fin ⟨rfl, rfl⟩
    exact ⟨rfl, by simpa [ownsOf, backOf] using h⟩
theorem at_row {row : Row} {i : Int} (h0 : 0 ≤ i) (h1 : i < row.length) : atD (row.map PyData.int) i = some (.int (atR row i)) := by
  obtain ⟨n, rfl⟩ : ∃ n : Nat, (n : Int) = i := ⟨i.toNat, by omega⟩
  exact get_int (by omega)
theorem at_rows {F : Nat → Row} {W w : Nat} (h : w < W) : atD ((List.range W).map fun w => rowD (F w)) w = some (rowD (F w)) := at_natA (by rw [List.getElem?_map, List.getElem?_range h]; rfl)
theorem first_specL {k f : Nat} (hf : prog[f]? = some L_first_labels) {r W : Nat} {gs : List Gt} {bars : List D} (hr : r ≤ 1000) (hW : W ≤ 1000) :
    Ret (run prog fuel (k + 1) f ([webD r gs bars, .int W].map .sh)) (fun m fin => m = .ol false ((List.range W).map fun w => rowD (firstR r)) ∧ fin = [webD r gs bars, .int W].map .sh) := by
  refine ret_run (fd := L_first_labels) hf rfl (Nat.le_of_ble_eq_true rfl) rfl ?_
  simp [L_first_labels]
  refine ⟨small_of (by omega) (by omega), ?_⟩
  refine wp_idx W (fun _ => rowD (firstR r)) rngD_len rfl (by show W ≤ 16777216; omega) (fun j d hj hd => ?_) ?_
  · simp [wipeE, Tg.vars, webD]
    refine ⟨small_of (by omega) (by omega), by rw [rngD_len]; omega, ?_⟩
    rw [rng_first]
    rfl
  · simp
def mgG (row : Row) (a b : Int) : D → Option D
  | .int x => some (.int (if x = atR row b then atR row a else x))
  | _ => none
theorem merged_specL {k f : Nat} (hf : prog[f]? = some L_merged) {row : Row} {a b : Int} (a0 : 0 ≤ a) (a1 : a < row.length) (b0 : 0 ≤ b) (b1 : b < row.length) (hl : row.length ≤ 1000) :
    Ret (run prog fuel (k + 1) f ([rowD row, .int a, .int b].map .sh)) (fun m fin => m = .ol false ((mgT row a b).map .int) ∧ fin = [rowD row, .int a, .int b].map .sh) := by
  refine ret_run (fd := L_merged) hf rfl (Nat.le_of_ble_eq_true rfl) rfl ?_
  simp [L_merged, rowD]
  refine wp_pure (mgG row a b) rfl (by rw [List.length_map]; exact Nat.le_trans hl (by decide)) (fun x hx => ?_) ?_
  · obtain ⟨x, hx, rfl⟩ := List.mem_map.mp hx
    simp [wipeE, Tg.vars, at_row a0 a1, at_row b0 b1]
    refine wpI_of (fun h => ?_) fun h => ?_
    · have h : x = atR row b := by simpa using h
      simp [mgG, h, wipeE]
    · have h : ¬ x = atR row b := by simpa using h
      simp [mgG, h, wipeE]
  · have e : ∀ xs : List Int, (xs.map PyData.int).filterMap (mgG row a b) = (xs.map fun x => if x = atR row b then atR row a else x).map .int := by
      intro xs
      induction xs with
      | nil => rfl
      | cons x xs ih => rw [List.map_cons, List.filterMap_cons, ih]; rfl
    rw [e]
    simp [mgT]
theorem behind_specL {k f ie im ig : Nat} (hf : prog[f]? = some (L_labels_behind ie im ig)) (he : prog[ie]? = some M_ends) (hm : prog[im]? = some M_may_pass) (hg : prog[ig]? = some L_merged) {r W : Nat} {gs : List Gt} {bars : List D} (hr : r ≤ 1000) (hW : W ≤ 1000) (pb : PyData.plainAll bars = true) (hgs : ∀ g ∈ gs, GateA r g) {F : Nat → Row} (hF : ∀ w, (F w).length = r) {g : Nat} (h : g < gs.length) :
    Ret (run prog fuel (k + 2) f ([webD r gs bars, rowsD F W, .int g].map .sh)) (fun m fin => m = .ol false ((List.range W).map fun w => rowD (lstep mgT gs bars w (F w) g)) ∧ fin = [webD r gs bars, rowsD F W, .int g].map .sh) := by
  obtain ⟨gt, hgt⟩ : ∃ gt, gs[g]? = some gt := ⟨gs[g], by simp [h]⟩
  obtain ⟨g1, g2, g3, g4, _⟩ := hgs gt (List.mem_of_getElem? hgt)
  refine ret_run (fd := L_labels_behind ie im ig) hf rfl (Nat.le_of_ble_eq_true rfl) rfl ?_
  simp [L_labels_behind]
  refine call_sh (ds := [webD r gs bars, .int g]) rfl (by simp) (ends_specM (k := k) he hgt) ?_
  simp [rowsD]
  refine wp_idx W (fun w => rowD (lstep mgT gs bars w (F w) g)) (by rw [enumD_lenA, List.length_map, List.length_range]) rfl (by show W ≤ 16777216; omega) (fun j d hj hd => ?_) ?_
  · obtain ⟨w, hw, rfl⟩ := enum_map_get hd
    rw [List.getElem?_range hj] at hw
    cases hw
    simp [wipeE, Tg.vars, Tg.varss]
    refine call_sh (ds := [webD r gs bars, .int j, .int g]) rfl (by simp) (may_specM (k := k) hm pb j g) ?_
    simp [truth]
    refine wpI_of (fun hb => ?_) fun hb => ?_
    · refine call_ret (ds := [rowD (F j), .int gt.1, .int gt.2.1]) rfl (by simp) (merged_specL (k := k) hg g1 (by rw [hF]; exact g2) g3 (by rw [hF]; exact g4) (by rw [hF]; exact hr)) fun m e => ?_
      subst e
      have hb : barB bars j g = false := by simpa using hb
      simp [wipeE, Tg.vars, Tg.varss, lstep, freeG, hb, hgt, rowD]
    · have hb : barB bars j g = true := by simpa using hb
      simp [wipeE, Tg.vars, Tg.varss, lstep, freeG, hb]
  · simp
theorem labels_specL {k f i0 ib ie im ig : Nat} (hf : prog[f]? = some (L_labels_by i0 ib)) (h0 : prog[i0]? = some L_first_labels) (hb : prog[ib]? = some (L_labels_behind ie im ig)) (he : prog[ie]? = some M_ends) (hm : prog[im]? = some M_may_pass) (hg : prog[ig]? = some L_merged) {r W : Nat} {gs : List Gt} {bars : List D} (hr : r ≤ 1000) (hW : W ≤ 1000) (pb : PyData.plainAll bars = true) (hgs : ∀ g ∈ gs, GateA r g) {lot : List Nat} (hl : ∀ g ∈ lot, g < gs.length) :
    Ret (run prog fuel (k + 3) f ([webD r gs bars, .int W, .list (lot.map natD)].map .sh)) (fun m fin => m = .ol false ((List.range W).map fun w => rowD (labW mgT gs bars r lot w)) ∧ fin = [webD r gs bars, .int W, .list (lot.map natD)].map .sh) := by
  refine ret_run (fd := L_labels_by i0 ib) hf rfl (Nat.le_of_ble_eq_true rfl) rfl ?_
  simp [L_labels_by]
  refine call_ret (ds := [webD r gs bars, .int W]) rfl (by simp) (first_specL (k := k + 1) h0 hr hW) fun m e => ?_
  subst e
  simp
  refine wp_forL (fun i ρ => ∃ x4, ρ = [some (.sh (webD r gs bars)), some (.sh (.int W)), some (.sh (.list (lot.map natD))), some (.ol false ((List.range W).map fun w => rowD (labW mgT gs bars r (lot.take i) w))), x4] ∧ Lo x4)
    ⟨none, rfl, .inl rfl⟩ ?_ ?_
  · rintro i d ρ hd ⟨x4, rfl, y4⟩
    rw [List.getElem?_map, Option.map_eq_some_iff] at hd
    obtain ⟨g, hgi, rfl⟩ := hd
    simp [y4.free, natD]
    refine call_ret (ds := [webD r gs bars, rowsD (labW mgT gs bars r (lot.take i)) W, .int g]) rfl (by simp) (behind_specL (k := k) hb he hm hg hr hW pb hgs (fun w => labW_len _ _ _ _ _) (hl g (List.mem_of_getElem? hgi))) fun m e => ?_
    subst e
    simp
    refine ⟨some (.sh (.int g)), ?_, .sh _⟩
    have e : ∀ w, labW mgT gs bars r (lot.take (i + 1)) w = lstep mgT gs bars w (labW mgT gs bars r (lot.take i) w) g := fun w => by
      unfold labW
      rw [take_snoc hgi, labT_snoc]
    simp [e]
  · rintro ρ ⟨x4, rfl, y4⟩
    rw [List.length_map, List.take_length]
    simp
end MI
namespace MI
open PySem
variable {prog : List Fd} {fuel : Nat}
theorem bools_any (p : D → Bool) (xs : List D) : opB1 .any (.list (xs.map fun x => .bool (p x))) = some (.val (.bool (xs.any p))) := by
  show (boolsOf _).map _ = _
  rw [bools_map]
  simp
theorem any_fm {ws : List Nat} {p : Nat → Bool} {g : D → Option D} (hg : ∀ w ∈ ws, g (natD w) = some (.bool (p w))) : opB1 .any (.list ((ws.map natD).filterMap g)) = some (.val (.bool (ws.any p))) := by
  have e : (ws.map natD).filterMap g = ws.map fun w => .bool (p w) := by
    induction ws with
    | nil => rfl
    | cons w ws ih =>
      rw [List.map_cons, List.filterMap_cons, hg w List.mem_cons_self, ih fun v hv => hg v (List.mem_cons_of_mem _ hv)]
      rfl
  rw [e]
  show (boolsOf _).map _ = _
  have eb : ∀ ws : List Nat, boolsOf (ws.map fun w => PyData.bool (p w)) = some (ws.map p) := by
    intro ws
    induction ws with
    | nil => rfl
    | cons w ws ih => simp [boolsOf, ih]
  rw [eb]
  simp
def nat_of : D → Nat
  | .int i => i.toNat
  | _ => 0
theorem nat_of_nat (w : Nat) : nat_of (natD w) = w := by simp [nat_of, natD]
/-- is a gate near, to one of the walkers: F a walker's row -/
def nearT' (F : Nat → Row) (hs : List Int) (gt : Gt) (ws : List Nat) : Bool := ws.any fun w => nearR (F w) (hs[w]?.getD 0) gt.1 gt.2.1
theorem set_same {ρ : Env} {j : Nat} {m : M} (h : ρ.get j = some m) : ρ.set j (some m) = ρ := by
  apply List.ext_getElem?
  intro i
  by_cases e : j = i
  · subst e
    have hl := get_lt h
    rw [List.getElem?_set_self hl]
    unfold Env.get at h
    rw [List.getElem?_eq_getElem hl] at h ⊢
    exact congrArg some h.symm
  · rw [List.getElem?_set_ne e]
/-- a call with five arguments, the second an own list, which stays -/
theorem call_own5 {cx : Cxt} {f j : Nat} {ρ : Env} {p : Bool} {xs : List D} {d1 d3 d4 d5 d : D} {src : List Arg} {Q : R → Env → Prop} (hj : ρ.get j = some (.ol p xs)) (hsrc : src = [.e 0, .e 1, .e 2, .e 3, .e 4]) (hr : Ret (cx.φ f (.sh d1 :: .ol true xs :: [d3, d4, d5].map .sh)) (fun m fin => m = .sh d ∧ fin = .sh d1 :: .ol true xs :: [d3, d4, d5].map .sh)) (h : Q (.val d) ρ) : Wp (callR cx f [.val d1, .own j, .val d3, .val d4, .val d5] src ρ) Q := by
  have own : ((Env.get ρ j).map M.isOwn).getD false = true := by rw [hj]; rfl
  subst hsrc
  refine wp_call (ms := [.sh d1, .ol true xs, .sh d3, .sh d4, .sh d5]) ?_ ?_ (by simp [srcOk]) hr ?_
  · simp [argsOf, R.arg, hj]
  · simp [ownsOf, own]
  · rintro m fin ⟨rfl, rfl⟩
    refine ⟨rfl, ?_⟩
    simp [ownsOf, own, backOf, hj, set_same hj]
    exact h
theorem near_specL {k f ie : Nat} (hf : prog[f]? = some (L_is_near ie)) (he : prog[ie]? = some M_ends) {r W : Nat} {gs : List Gt} {bars : List D} (hgs : ∀ g ∈ gs, GateA r g) {F : Nat → Row} (hF : ∀ w, (F w).length = r) {hs : List Int} (hW : hs.length = W) (hh : ∀ a ∈ hs, 0 ≤ a ∧ a < r) {g : Nat} {gt : Gt} (hg : gs[g]? = some gt) {ws : List Nat} (hw : ∀ w ∈ ws, w < W) (wl : ws.length ≤ 1000) {m1 : M} (h1 : m1 = .sh (rowsD F W) ∨ m1 = .ol true ((List.range W).map fun w => rowD (F w))) :
    Ret (run prog fuel (k + 2) f (.sh (webD r gs bars) :: m1 :: [.tuple (hs.map .int), .int g, .tuple (ws.map natD)].map .sh)) (fun m fin => m = .sh (.bool (nearT' F hs gt ws)) ∧ fin = .sh (webD r gs bars) :: m1 :: [.tuple (hs.map .int), .int g, .tuple (ws.map natD)].map .sh) := by
  obtain ⟨g1, g2, g3, g4, _⟩ := hgs gt (List.mem_of_getElem? hg)
  refine ret_run (fd := L_is_near ie) hf rfl (Nat.le_of_ble_eq_true rfl) (by rcases h1 with rfl | rfl <;> rfl) ?_
  rcases h1 with rfl | rfl
  all_goals (
  simp [L_is_near]
  refine call_sh (ds := [webD r gs bars, .int g]) rfl (by simp) (ends_specM (k := k) he hg) ?_
  simp
  refine wp_pure (fun d => some (.bool (nearR (F (nat_of d)) (hs[nat_of d]?.getD 0) gt.1 gt.2.1))) rfl (by rw [List.length_map]; exact Nat.le_trans wl (by decide)) (fun x hx => ?_) ?_
  · obtain ⟨w, hwm, rfl⟩ := List.mem_map.mp hx
    have lw := hw w hwm
    have lw2 : w < hs.length := by omega
    obtain ⟨p, hp⟩ : ∃ p, hs[w]? = some p := ⟨hs[w], by simp [lw2]⟩
    obtain ⟨p0, p1⟩ := hh p (List.mem_of_getElem? hp)
    have er : atD ((List.range W).map fun w => PyData.list ((F w).map .int)) w = some (.list ((F w).map .int)) := at_rows lw
    simp [wipeE, Tg.vars, natD, rowsD, rowD, er, get_room hp, at_row (row := F w) (i := p) p0 (by rw [hF]; exact p1), at_row (row := F w) (i := gt.1) g1 (by rw [hF]; exact g2), at_row (row := F w) (i := gt.2.1) g3 (by rw [hF]; exact g4), in_two]
    simp [nat_of, hp, nearR, wipeE]
  · show wpO (opB1 .any (.list (List.filterMap _ _))) _
    rw [any_fm (p := fun w => nearR (F w) (hs[w]?.getD 0) gt.1 gt.2.1) fun w _ => by simp only [nat_of_nat]]
    simp [nearT'])
end MI
namespace MI
open PySem
variable {prog : List Fd} {fuel : Nat}
/-- nobody, anyone, a walker -/
abbrev Ow := Option (Option Nat)
def owD : Ow → D
  | none => .none
  | some none => .str (Str.ofString "any")
  | some (some n) => .int n
theorem eq_any (o : Ow) : opCmp .eq (owD o) (.str (Str.ofString "any")) = some (decide (o = some none)) := by
  match o with
  | none => rfl
  | some none => decide +kernel
  | some (some n) => simp [owD]; rfl
theorem open_specL {k f : Nat} (hf : prog[f]? = some L_is_open) (o : Ow) : Ret (run prog fuel (k + 1) f ([owD o].map .sh)) (fun m fin => m = .sh (.bool (decide (o = some none))) ∧ fin = [owD o].map .sh) := by
  refine ret_run (fd := L_is_open) hf rfl (Nat.le_of_ble_eq_true rfl) rfl ?_
  simp [L_is_open, eq_any]
def hostT (bars : List D) (g : Nat) : Option Nat → List Nat
  | none => []
  | some n => if freeG bars n g then [n] else []
theorem host_specL {k f im : Nat} (hf : prog[f]? = some (L_hosts_of im)) (hm : prog[im]? = some M_may_pass) {r : Int} {gs : List Gt} {bars : List D} (pb : PyData.plainAll bars = true) (g : Nat) (o : Option Nat) :
    Ret (run prog fuel (k + 2) f ([webD r gs bars, .int g, ownD o].map .sh)) (fun m fin => m = .sh (.tuple ((hostT bars g o).map natD)) ∧ fin = [webD r gs bars, .int g, ownD o].map .sh) := by
  refine ret_run (fd := L_hosts_of im) hf rfl (Nat.le_of_ble_eq_true rfl) rfl ?_
  cases o with
  | none => simp [L_hosts_of, ownD, isNone, hostT]
  | some n =>
    simp [L_hosts_of, ownD, isNone]
    refine call_sh (ds := [webD r gs bars, .int n, .int g]) rfl (by simp) (may_specM (k := k) hm pb n g) ?_
    simp [truth]
    cases h : barB bars n g <;> simp [hostT, freeG, h, natD]
def whT (bars : List D) (W g : Nat) : Ow → List Nat
  | none => []
  | some none => (List.range W).filter fun w => freeG bars w g
  | some (some n) => if freeG bars n g then [n] else []
def owAt (os : List Ow) (g : Nat) : Ow := os[g]?.getD none
def hopeD (hs : List Int) (os : List Ow) : D := .tuple [.tuple (hs.map .int), .tuple (os.map owD)]
theorem filter_fm (p : Nat → Bool) (ws : List Nat) : (ws.map natD).filterMap (fun d => if p (nat_of d) then some d else none) = (ws.filter p).map natD := by
  induction ws with
  | nil => rfl
  | cons w ws ih =>
    rw [List.map_cons, List.filterMap_cons, List.filter_cons, ih, nat_of_nat]
    cases p w <;> rfl
theorem wished_specL {k f ih io im : Nat} (hf : prog[f]? = some (L_wished_hosts ih io im)) (hh : prog[ih]? = some (L_hosts_of im)) (ho : prog[io]? = some L_is_open) (hm : prog[im]? = some M_may_pass) {r : Int} {gs : List Gt} {bars : List D} (pb : PyData.plainAll bars = true) {hs : List Int} {os : List Ow} (hW : hs.length ≤ 1000) (hO : os.length ≤ 1000) :
    Ret (run prog fuel (k + 3) f ([webD r gs bars, hopeD hs os].map .sh)) (fun m fin => m = .ol false ((List.range os.length).map fun g => .tuple ((whT bars hs.length g (owAt os g)).map natD)) ∧ fin = [webD r gs bars, hopeD hs os].map .sh) := by
  refine ret_run (fd := L_wished_hosts ih io im) hf rfl (Nat.le_of_ble_eq_true rfl) rfl ?_
  simp [L_wished_hosts, hopeD]
  refine wp_forL (fun i ρ => ∃ x5 x6, ρ = [some (.sh (webD r gs bars)), some (.sh (.tuple [.tuple (hs.map .int), .tuple (os.map owD)])), some (.ol false ((List.range i).map fun g => .tuple ((whT bars hs.length g (owAt os g)).map natD))), some (.sh (.tuple (hs.map .int))), some (.sh (.tuple (os.map owD))), x5, x6, none] ∧ Lo x5 ∧ Lo x6)
    ⟨none, none, rfl, .inl rfl, .inl rfl⟩ ?_ ?_
  · rintro i d ρ hd ⟨x5, x6, rfl, y5, y6⟩
    obtain ⟨o, hoi, rfl⟩ := enum_map_get hd
    have hi := lt_natA hoi
    have eo : owAt os i = o := by unfold owAt; rw [hoi]; rfl
    simp [y5.free, y6.free]
    refine call_sh (ds := [owD o]) rfl (by simp) (open_specL (k := k + 1) ho o) ?_
    simp [truth]
    match o with
    | some none =>
      simp
      refine ⟨small_of (by omega) (by omega), ?_⟩
      rw [rng_nat]
      refine wp_pure (fun d => if freeG bars (nat_of d) i then some d else none) rfl (by simp; omega) (fun x hx => ?_) ?_
      · obtain ⟨w, hw, rfl⟩ := List.mem_map.mp hx
        simp [wipeE, Tg.vars, natD]
        refine call_sh (ds := [webD r gs bars, .int w, .int i]) rfl (by simp) (may_specM (k := k + 1) hm pb w i) ?_
        simp [truth]
        cases h : barB bars w i <;> simp [freeG, nat_of, h, wipeE]
      · rw [filter_fm (fun w => freeG bars w i)]
        simp
        refine ⟨by omega, ?_⟩
        exact ⟨some (.sh (.int i)), some (.sh (owD (some none))), by simp [List.range_succ, eo, whT, natD], .sh _, .sh _⟩
    | none =>
      simp
      refine call_sh (ds := [webD r gs bars, .int i, ownD none]) rfl (by simp) (host_specL (k := k) hh hm pb i none) ?_
      simp
      refine ⟨by omega, ?_⟩
      exact ⟨some (.sh (.int i)), some (.sh (owD none)), by simp [List.range_succ, eo, whT, hostT, natD], .sh _, .sh _⟩
    | some (some n) =>
      simp
      refine call_sh (ds := [webD r gs bars, .int i, ownD (some n)]) rfl (by simp) (host_specL (k := k) hh hm pb i (some n)) ?_
      simp
      refine ⟨by omega, ?_⟩
      exact ⟨some (.sh (.int i)), some (.sh (owD (some (some n)))), by simp [List.range_succ, eo, whT, hostT, natD], .sh _, .sh _⟩
  · rintro ρ ⟨x5, x6, rfl, y5, y6⟩
    rw [enumD_lenA, List.length_map]
    simp
theorem mem_nat (g : Nat) (js : List Nat) : memD (.int g) (js.map natD) = decide (g ∈ js) := by
  induction js with
  | nil => rfl
  | cons j js ih =>
    simp only [memD, List.map_cons, List.any_cons] at ih ⊢
    rw [ih]
    simp only [natD, PyData.eqv]
    by_cases h : g = j
    · subst h; simp
    · have h' : ¬ ((j : Int) = g) := by omega
      rw [beq_eq_false_iff_ne.mpr h']
      simp [h]
theorem nats_plain : ∀ js : List Nat, PyData.plainAll (js.map natD) = true
  | [] => rfl
  | j :: js => by simp [PyData.plainAll, PyData.plain, natD, nats_plain js]
theorem notin_nat (g : Nat) (js : List Nat) : opCmp .notin (.int g) (.tuple (js.map natD)) = some (!decide (g ∈ js)) := by
  show (gd (okEq (.int (g : Int)) && PyData.plainAll (js.map natD)) (memD (.int g) (js.map natD))).map not = _
  rw [nats_plain, mem_nat]
  rfl
theorem notin_natL (g : Nat) (js : List Nat) : opCmp .notin (.int g) (.list (js.map natD)) = some (!decide (g ∈ js)) := by
  show (gd (okEq (.int (g : Int)) && PyData.plainAll (js.map natD)) (memD (.int g) (js.map natD))).map not = _
  rw [nats_plain, mem_nat]
  rfl
theorem isin_nat (g : Nat) (js : List Nat) : opCmp .isin (.int g) (.tuple (js.map natD)) = some (decide (g ∈ js)) := by
  show gd (okEq (.int (g : Int)) && PyData.plainAll (js.map natD)) (memD (.int g) (js.map natD)) = _
  rw [nats_plain, mem_nat]
  rfl
/-- the gates outside a lot -/
def outT (n : Nat) (js : List Nat) : List Nat := (List.range n).filter fun g => !decide (g ∈ js)
theorem outside_specL {k f : Nat} (hf : prog[f]? = some L_outside_of) {r : Int} {gs : List Gt} {bars : List D} (gl : gs.length ≤ 1000) (js : List Nat) :
    Ret (run prog fuel (k + 1) f ([webD r gs bars, .tuple (js.map natD)].map .sh)) (fun m fin => m = .ol false ((outT gs.length js).map natD) ∧ fin = [webD r gs bars, .tuple (js.map natD)].map .sh) := by
  refine ret_run (fd := L_outside_of) hf rfl (Nat.le_of_ble_eq_true rfl) rfl ?_
  simp [L_outside_of, webD]
  refine ⟨small_of (by omega) (by omega), ?_⟩
  rw [rng_nat]
  refine wp_pure (fun d => if (fun g => !decide (g ∈ js)) (nat_of d) then some d else none) rfl (by simp; omega) (fun x hx => ?_) ?_
  · obtain ⟨g, hg, rfl⟩ := List.mem_map.mp hx
    have e := notin_nat g js
    simp only [natD] at e ⊢
    simp [wipeE, Tg.vars, e]
    by_cases h : g ∈ js <;> simp [h, nat_of, wipeE]
  · rw [filter_fm (fun g => !decide (g ∈ js))]
    simp [outT]
def gAt (gs : List Gt) (g : Nat) : Gt := gs[g]?.getD (0, 0, 0)
def closedT (gs : List Gt) (bars : List D) (r : Nat) (hs : List Int) (H : Nat → List Nat) (lot : List Nat) : Bool := !(lot.any fun g => nearT' (labW mgT gs bars r (outT gs.length lot)) hs (gAt gs g) (H g))
end MI
namespace MI
open PySem
variable {prog : List Fd} {fuel : Nat}
/-- where the functions on labels stand -/
structure LbIx where
  (lby fst beh mrg ends may : Nat)
structure HasLb (prog : List Fd) (I : LbIx) : Prop where
  lby : prog[I.lby]? = some (L_labels_by I.fst I.beh)
  fst : prog[I.fst]? = some L_first_labels
  beh : prog[I.beh]? = some (L_labels_behind I.ends I.may I.mrg)
  mrg : prog[I.mrg]? = some L_merged
  ends : prog[I.ends]? = some M_ends
  may : prog[I.may]? = some M_may_pass
/-- a web, bars, places -/
structure Scene (gs : List Gt) (bars : List D) (r : Nat) (hs : List Int) : Prop where
  hr : r ≤ 1000
  gl : gs.length ≤ 1000
  wl : hs.length ≤ 1000
  pb : PyData.plainAll bars = true
  hg : ∀ g ∈ gs, GateA r g
  hh : ∀ a ∈ hs, 0 ≤ a ∧ a < r
theorem Scene.labels {k : Nat} {I : LbIx} (h : HasLb prog I) {gs : List Gt} {bars : List D} {r : Nat} {hs : List Int} (S : Scene gs bars r hs) {lot : List Nat} (hl : ∀ g ∈ lot, g < gs.length) :
    Ret (run prog fuel (k + 3) I.lby ([webD r gs bars, .int hs.length, .list (lot.map natD)].map .sh)) (fun m fin => m = .ol false ((List.range hs.length).map fun w => rowD (labW mgT gs bars r lot w)) ∧ fin = [webD r gs bars, .int hs.length, .list (lot.map natD)].map .sh) :=
  labels_specL h.lby h.fst h.beh h.ends h.may h.mrg S.hr S.wl S.pb S.hg hl
theorem outT_lt {n : Nat} {js : List Nat} : ∀ g ∈ outT n js, g < n := fun g hg => List.mem_range.mp (List.mem_filter.mp hg).1
theorem gAt_get {gs : List Gt} {g : Nat} (h : g < gs.length) : gs[g]? = some (gAt gs g) := by
  unfold gAt
  rw [List.getElem?_eq_getElem h]
  rfl
theorem closed_specL {k f inr iout : Nat} {I : LbIx} (hf : prog[f]? = some (L_is_closed inr I.lby iout)) (hn : prog[inr]? = some (L_is_near I.ends)) (ho : prog[iout]? = some L_outside_of) (h : HasLb prog I) {gs : List Gt} {bars : List D} {r : Nat} {hs : List Int} (S : Scene gs bars r hs) {H : Nat → List Nat} (hH : ∀ g, ∀ w ∈ H g, w < hs.length) (hHl : ∀ g, (H g).length ≤ 1000) {lot : List Nat} (hl : ∀ g ∈ lot, g < gs.length) (ll : lot.length ≤ 1000) :
    Ret (run prog fuel (k + 4) f ([webD r gs bars, .tuple (hs.map .int), .list ((List.range gs.length).map fun g => .tuple ((H g).map natD)), .tuple (lot.map natD)].map .sh)) (fun m fin => m = .sh (.bool (closedT gs bars r hs H lot)) ∧ fin = [webD r gs bars, .tuple (hs.map .int), .list ((List.range gs.length).map fun g => .tuple ((H g).map natD)), .tuple (lot.map natD)].map .sh) := by
  refine ret_run (fd := L_is_closed inr I.lby iout) hf rfl (Nat.le_of_ble_eq_true rfl) rfl ?_
  simp [L_is_closed]
  refine call_ret (ds := [webD r gs bars, .tuple (lot.map natD)]) rfl (by simp) (outside_specL (k := k + 2) ho S.gl lot) fun m e => ?_
  subst e
  simp
  refine call_ret (ds := [webD r gs bars, .int hs.length, .list ((outT gs.length lot).map natD)]) rfl (by simp) (S.labels (k := k) h outT_lt) fun m e => ?_
  subst e
  simp
  refine wp_pure (fun d => some (.bool (nearT' (labW mgT gs bars r (outT gs.length lot)) hs (gAt gs (nat_of d)) (H (nat_of d))))) rfl (by rw [List.length_map]; exact Nat.le_trans ll (by decide)) (fun x hx => ?_) ?_
  · obtain ⟨g, hgm, rfl⟩ := List.mem_map.mp hx
    have lg := hl g hgm
    have eH : atD ((List.range gs.length).map fun g => PyData.tuple ((H g).map natD)) g = some (.tuple ((H g).map natD)) := at_natA (by rw [List.getElem?_map, List.getElem?_range lg]; rfl)
    simp [wipeE, Tg.vars, natD, eH]
    refine call_own5 rfl rfl (near_specL (k := k + 1) hn h.ends (W := hs.length) S.hg (F := labW mgT gs bars r (outT gs.length lot)) (fun w => labW_len _ _ _ _ _) rfl S.hh (gAt_get lg) (hH g) (hHl g) (.inr rfl)) ?_
    simp [nat_of, wipeE]
  · show wpO (opB1 .any (.list (List.filterMap _ _))) _
    rw [any_fm (p := fun g => nearT' (labW mgT gs bars r (outT gs.length lot)) hs (gAt gs g) (H g)) fun w _ => by simp only [nat_of_nat]]
    simp [closedT, truth]
end MI
namespace MI
open PySem
variable {prog : List Fd} {fuel : Nat}
theorem in_twoL (p a b : Int) : opCmp .isin (.int p) (.list [.int a, .int b]) = some (p == a || p == b) := in_two p a b
theorem min_pairL (a b : Int) : opB1 .min (.list [.int a, .int b]) = some (.val (.int (min a b))) := min_pair a b
def atG (row : Row) : D → Option D
  | .int i => some (.int (atR row i))
  | _ => none
def mnG (ra rb : Int) : D → Option D
  | .int x => some (.int (if x = ra ∨ x = rb then min ra rb else x))
  | _ => none
theorem parts_specC {k f : Nat} (hf : prog[f]? = some C_parts) {gs : List Gt} {bars : List D} {r : Nat} {hs : List Int} (S : Scene gs bars r hs) {lot : List Nat} (hl : ∀ g ∈ lot, g < gs.length) (w : Nat) :
    Ret (run prog fuel (k + 1) f ([webD r gs bars, .int w, .list (lot.map natD)].map .sh)) (fun m fin => m = .ol false ((labW mnT gs bars r lot w).map .int) ∧ fin = [webD r gs bars, .int w, .list (lot.map natD)].map .sh) := by
  have hr := S.hr
  refine ret_run (fd := C_parts) hf rfl (Nat.le_of_ble_eq_true rfl) rfl ?_
  simp [C_parts, webD]
  refine ⟨small_of (by omega) (by omega), by rw [rngD_len]; omega, ?_⟩
  rw [rng_first]
  refine wp_forL (fun i ρ => ∃ x4 x5, ρ = [some (.sh (.tuple [.int r, .tuple (gs.map gateD), .tuple bars])), some (.sh (.int w)), some (.sh (.list (lot.map natD))), some (.ol false ((labW mnT gs bars r (lot.take i) w).map .int)), x4, x5, none, none] ∧ Lo x4 ∧ Fr x5)
    ⟨none, none, rfl, .inl rfl, .lo (.inl rfl)⟩ ?_ ?_
  · rintro i d ρ hd ⟨x4, x5, rfl, y4, y5⟩
    rw [List.getElem?_map, Option.map_eq_some_iff] at hd
    obtain ⟨g, hgi, rfl⟩ := hd
    have lg := hl g (List.mem_of_getElem? hgi)
    have hgt := gAt_get lg
    obtain ⟨g1, g2, g3, g4, _⟩ := S.hg _ (List.mem_of_getElem? hgt)
    have er : labW mnT gs bars r (lot.take (i + 1)) w = lstep mnT gs bars w (labW mnT gs bars r (lot.take i) w) g := by
      unfold labW
      rw [take_snoc hgi, labT_snoc]
    have ll := labW_len' r gs bars (lot.take i) w
    generalize labW mnT gs bars r (lot.take i) w = row at er ll
    simp [y4.free, natD, notin_bars S.pb]
    refine wpI_of (fun hb => ?_) fun hb => ?_
    · have hb : barB bars w g = false := by simpa using hb
      simp [get_gate hgt]
      simp [gateD, cut_twoA]
      refine wp_pure (atG row) rfl (by simp) (fun x hx => ?_) ?_
      · have hx : x = .int (gAt gs g).1 ∨ x = .int (gAt gs g).2.1 := by simpa using hx
        rcases hx with rfl | rfl
        · simp [wipeE, Tg.vars, at_row (row := row) g1 (by rw [ll]; exact g2), atG]
        · simp [wipeE, Tg.vars, at_row (row := row) g3 (by rw [ll]; exact g4), atG]
      · simp [atG, y5.free]
        refine wp_pure (mnG (atR row (gAt gs g).1) (atR row (gAt gs g).2.1)) rfl (by rw [List.length_map, ll]; exact Nat.le_trans hr (by decide)) (fun x hx => ?_) ?_
        · obtain ⟨x, hx, rfl⟩ := List.mem_map.mp hx
          simp [wipeE, Tg.vars, in_twoL, min_pairL]
          refine wpI_of (fun h => ?_) fun h => ?_
          · have h : x = atR row (gAt gs g).1 ∨ x = atR row (gAt gs g).2.1 := by simpa using h
            simp [mnG, h, wipeE]
          · have h : ¬ (x = atR row (gAt gs g).1 ∨ x = atR row (gAt gs g).2.1) := by simpa using h
            simp [mnG, h, wipeE]
        · have e : ∀ xs : List Int, (xs.map PyData.int).filterMap (mnG (atR row (gAt gs g).1) (atR row (gAt gs g).2.1)) = (xs.map fun x => if x = atR row (gAt gs g).1 ∨ x = atR row (gAt gs g).2.1 then min (atR row (gAt gs g).1) (atR row (gAt gs g).2.1) else x).map .int := by
            intro xs
            induction xs with
            | nil => rfl
            | cons x xs ih => rw [List.map_cons, List.filterMap_cons, ih]; rfl
          rw [e]
          simp
          refine ⟨some (.sh (.int g)), some (.ol false [.int (atR row (gAt gs g).1), .int (atR row (gAt gs g).2.1)]), ?_, .sh _, .ol _⟩
          rw [er]
          simp [lstep, freeG, hb, hgt, mnT]
    · have hb : barB bars w g = true := by simpa using hb
      exact ⟨_, _, by rw [er]; simp [lstep, freeG, hb], .sh (.int g), y5⟩
  · rintro ρ ⟨x4, x5, rfl, y4, y5⟩
    rw [List.length_map, List.take_length]
    simp
theorem table_specC {k f ip : Nat} (hf : prog[f]? = some (C_table ip)) (hp : prog[ip]? = some C_parts) {gs : List Gt} {bars : List D} {r : Nat} {hs : List Int} (S : Scene gs bars r hs) {lot : List Nat} (hl : ∀ g ∈ lot, g < gs.length) :
    Ret (run prog fuel (k + 2) f ([webD r gs bars, .tuple (hs.map .int), .list (lot.map natD)].map .sh)) (fun m fin => m = .ol false ((List.range hs.length).map fun w => rowD (labW mnT gs bars r lot w)) ∧ fin = [webD r gs bars, .tuple (hs.map .int), .list (lot.map natD)].map .sh) := by
  have wl := S.wl
  refine ret_run (fd := C_table ip) hf rfl (Nat.le_of_ble_eq_true rfl) rfl ?_
  simp [C_table]
  refine ⟨small_of (by omega) (by omega), ?_⟩
  refine wp_idx hs.length (fun w => rowD (labW mnT gs bars r lot w)) rngD_len rfl (by show hs.length ≤ 16777216; omega) (fun j d hj hd => ?_) ?_
  · obtain ⟨_, rfl⟩ := rngD_get hd
    simp [wipeE, Tg.vars]
    refine call_ret (ds := [webD r gs bars, .int j, .list (lot.map natD)]) rfl (by simp) (parts_specC (k := k) hp S hl j) fun m e => ?_
    subst e
    simp [wipeE, rowD]
  · simp
def hostL (W : Nat) : Ow → List Nat
  | none => []
  | some none => List.range W
  | some (some n) => [n]
theorem hosts_specC {k f : Nat} (hf : prog[f]? = some C_hosts) {hs : List Int} {os : List Ow} (hW : hs.length ≤ 1000) {g : Nat} (hg : g < os.length) :
    Ret (run prog fuel (k + 1) f ([hopeD hs os, .int g].map .sh)) (fun m fin => m = .ol false ((hostL hs.length (owAt os g)).map natD) ∧ fin = [hopeD hs os, .int g].map .sh) := by
  have e : atD (os.map owD) g = some (owD (owAt os g)) := at_natA (by rw [List.getElem?_map, List.getElem?_eq_getElem hg]; simp [owAt, hg])
  refine ret_run (fd := C_hosts) hf rfl (Nat.le_of_ble_eq_true rfl) rfl ?_
  generalize owAt os g = o at e
  simp [C_hosts, hopeD, e]
  match o with
  | none => simp [owD, isNone, hostL]
  | some none =>
    simp [eq_any]
    simp [owD, isNone, hostL]
    refine ⟨small_of (by omega) (by omega), by rw [rngD_len]; omega, ?_⟩
    rw [rng_nat]
  | some (some n) =>
    simp [eq_any]
    simp [owD, isNone, hostL, natD]
/-- near, of the walkers that may pass -/
def nearL (F : Nat → Row) (bars : List D) (hs : List Int) (gt : Gt) (g : Nat) (ws : List Nat) : Bool := ws.any fun w => freeG bars w g && nearR (F w) (hs[w]?.getD 0) gt.1 gt.2.1
@[simp] theorem web_0 (r : Int) (gs : List Gt) (bars : List D) : opIdx (webD r gs bars) (.int 0) = some (.val (.int r)) := rfl
@[simp] theorem web_1 (r : Int) (gs : List Gt) (bars : List D) : opIdx (webD r gs bars) (.int 1) = some (.val (.tuple (gs.map gateD))) := rfl
@[simp] theorem web_2 (r : Int) (gs : List Gt) (bars : List D) : opIdx (webD r gs bars) (.int 2) = some (.val (.tuple bars)) := rfl
theorem near_specC {k f : Nat} (hf : prog[f]? = some C_is_near) {gs : List Gt} {bars : List D} {r : Nat} {hs : List Int} (S : Scene gs bars r hs) {F : Nat → Row} (hF : ∀ w, (F w).length = r) {g : Nat} {gt : Gt} (hg : gs[g]? = some gt) {ws : List Nat} (hw : ∀ w ∈ ws, w < hs.length) {m1 : M} (h1 : m1 = .sh (rowsD F hs.length) ∨ m1 = .ol true ((List.range hs.length).map fun w => rowD (F w))) :
    Ret (run prog fuel (k + 1) f (.sh (webD r gs bars) :: m1 :: [.tuple (hs.map .int), .int g, .list (ws.map natD)].map .sh)) (fun m fin => m = .sh (.bool (nearL F bars hs gt g ws)) ∧ fin = .sh (webD r gs bars) :: m1 :: [.tuple (hs.map .int), .int g, .list (ws.map natD)].map .sh) := by
  obtain ⟨g1, g2, g3, g4, _⟩ := S.hg gt (List.mem_of_getElem? hg)
  refine ret_run (fd := C_is_near) hf rfl (Nat.le_of_ble_eq_true rfl) (by rcases h1 with rfl | rfl <;> rfl) ?_
  have eg : gateD gt = .tuple [.int gt.1, .int gt.2.1, .int gt.2.2] := rfl
  have fin : ∀ {m1 : M}, (m1 = .sh (rowsD F hs.length) ∨ m1 = .ol true ((List.range hs.length).map fun w => rowD (F w))) → Wp (evSs ⟨run prog fuel k, fuel⟩ C_is_near.body ([.sh (webD r gs bars), m1, .sh (.tuple (hs.map .int)), .sh (.int g), .sh (.list (ws.map natD))].map some ++ List.replicate 5 none)) (endOf (fun m fin => m = .sh (.bool (nearL F bars hs gt g ws)) ∧ fin = .sh (webD r gs bars) :: m1 :: [.tuple (hs.map .int), .int g, .list (ws.map natD)].map .sh) [.sh (webD r gs bars), m1, .sh (.tuple (hs.map .int)), .sh (.int g), .sh (.list (ws.map natD))]) := by
    intro m1 h1
    simp [C_is_near, get_gate hg, eg]
    refine wp_forL (fun i ρ => ∃ x5 x9, ρ = [some (.sh (webD r gs bars)), some m1, some (.sh (.tuple (hs.map .int))), some (.sh (.int g)), some (.sh (.list (ws.map natD))), x5, some (.sh (.int gt.1)), some (.sh (.int gt.2.1)), some (.sh (.int gt.2.2)), x9] ∧ Lo x5 ∧ Lo x9 ∧ nearL F bars hs gt g (ws.take i) = false)
      ⟨none, none, rfl, .inl rfl, .inl rfl, rfl⟩ ?_ ?_
    · rintro i d ρ hd ⟨x5, x9, rfl, y5, y9, ha⟩
      rw [List.getElem?_map, Option.map_eq_some_iff] at hd
      obtain ⟨w, hwi, rfl⟩ := hd
      have lw := hw w (List.mem_of_getElem? hwi)
      obtain ⟨p, hp⟩ : ∃ p, hs[w]? = some p := ⟨hs[w], by simp [lw]⟩
      obtain ⟨p0, p1⟩ := S.hh p (List.mem_of_getElem? hp)
      have er : atD ((List.range hs.length).map fun w => PyData.list ((F w).map .int)) w = some (.list ((F w).map .int)) := at_rows lw
      have et : nearL F bars hs gt g (ws.take (i + 1)) = (freeG bars w g && nearR (F w) p gt.1 gt.2.1) := by
        unfold nearL at ha ⊢
        rw [take_snoc hwi, List.any_append, ha, Bool.false_or]
        simp [hp]
      have yes : (freeG bars w g && nearR (F w) p gt.1 gt.2.1) = true → nearL F bars hs gt g ws = true := fun h => List.any_eq_true.mpr ⟨w, List.mem_of_getElem? hwi, by simpa [hp] using h⟩
      have c1 : M.cont m1 = some (rowsD F hs.length) := by rcases h1 with rfl | rfl <;> rfl
      rcases h1 with rfl | rfl
      all_goals (
        simp [y5.free, y9.free, natD, rowsD, rowD, er, get_room hp, at_row (row := F w) (i := p) p0 (by rw [hF]; exact p1), at_row (row := F w) (i := gt.1) g1 (by rw [hF]; exact g2), at_row (row := F w) (i := gt.2.1) g3 (by rw [hF]; exact g4), in_two, notin_bars S.pb]
        have e1 : freeG bars w g = !barB bars w g := rfl
        have e2 : nearR (F w) p gt.1 gt.2.1 = (atR (F w) p == atR (F w) gt.1 || atR (F w) p == atR (F w) gt.2.1) := rfl
        rw [e1, e2] at et yes
        generalize (atR (F w) p == atR (F w) gt.1 || atR (F w) p == atR (F w) gt.2.1) = b2 at et yes ⊢
        generalize barB bars w g = b1 at et yes ⊢
        cases b1 with
        | true => exact ⟨_, _, rfl, .sh _, .sh _, et⟩
        | false =>
          cases b2 with
          | false => exact ⟨_, _, rfl, .sh _, .sh _, et⟩
          | true =>
            have y := yes rfl
            simp [forQ, y])
    · rintro ρ ⟨x5, x9, rfl, y5, y9, ha⟩
      rw [List.length_map, List.take_length] at ha
      rcases h1 with rfl | rfl <;> simp [ha]
  exact fin h1
end MI
namespace MI
open PySem
variable {prog : List Fd} {fuel : Nat}
/-! ### sorted(xs), xs different ints -/
theorem le_int (a b : Int) : W.dataLe false id (PyData.int a) (PyData.int b) = decide (a ≤ b) := by
  have e := congrFun (congrFun (W.dataLe_int (β := Int) id) a) b
  exact e
theorem sortD_ints (xs : List Int) (nd : xs.Nodup) : sortD (xs.map PyData.int) = (ssetI xs).map .int := by
  unfold sortD
  have e : (xs.mergeSort fun a b => decide (a ≤ b)).map PyData.int = (xs.map PyData.int).mergeSort (W.dataLe false id) := List.map_mergeSort fun a _ b _ => (le_int a b).symm
  rw [← e]
  congr 1
  have pm : (xs.mergeSort fun a b => decide (a ≤ b)).Perm xs := List.mergeSort_perm _ _
  have pw : (xs.mergeSort fun a b => decide (a ≤ b)).Pairwise fun a b => decide (a ≤ b) = true := List.pairwise_mergeSort (by intro a b c h1 h2; simp at *; omega) (by intro a b; simp; omega) xs
  refine sorted_eq ?_ (ssetI_lt xs) fun z => by rw [pm.mem_iff, ssetI_mem]
  have nd2 : (xs.mergeSort fun a b => decide (a ≤ b)).Pairwise fun a b => a ≠ b := pm.nodup_iff.mpr nd
  refine (pw.and nd2).imp fun ⟨h1, h2⟩ => ?_
  simp at h1
  omega
theorem ints_alike (xs : List Int) : allAlike (xs.map PyData.int) = true := by
  unfold allAlike
  simp only [List.all_eq_true, List.mem_map]
  rintro _ ⟨a, _, rfl⟩
  simp only [Bool.and_eq_true, List.all_eq_true, List.mem_map]
  exact ⟨rfl, by rintro _ ⟨b, _, rfl⟩; rfl⟩
theorem ints_plain' : ∀ xs : List Int, PyData.plainAll (xs.map PyData.int) = true ∧ PyData.depthAll (xs.map PyData.int) = 0
  | [] => ⟨rfl, rfl⟩
  | x :: xs => by simp [PyData.plainAll, PyData.plain, PyData.depthAll, PyData.depth, ints_plain' xs]
theorem sorted_ints (xs : List Int) (nd : xs.Nodup) (hl : xs.length ≤ 1000) : opB1 .sorted (.list (xs.map PyData.int)) = some (.new ((ssetI xs).map .int)) := by
  show gd (okOrd (xs.map PyData.int) && okSort (xs.map PyData.int) && decide ((xs.map PyData.int).length ≤ Lim)) (R.new (sortD (xs.map PyData.int))) = _
  have h1 : okOrd (xs.map PyData.int) = true := by
    unfold okOrd
    rw [ints_alike, (ints_plain' xs).1, (ints_plain' xs).2]
    rfl
  have h2 : okSort (xs.map PyData.int) = true := by
    unfold okSort
    rw [Bool.or_eq_true]
    right
    simp
  have h3 : (xs.map PyData.int).length ≤ Lim := by rw [List.length_map]; show xs.length ≤ 16777216; omega
  rw [h1, h2, decide_eq_true h3, sortD_ints xs nd]
  rfl
def nats (js : List Nat) : List Int := js.map fun (j : Nat) => (j : Int)
theorem nats_map (js : List Nat) : (nats js).map PyData.int = js.map natD := by simp [nats, natD]
theorem nats_nodup {js : List Nat} (h : js.Nodup) : (nats js).Nodup := by
  unfold nats
  exact List.Pairwise.map _ (fun a b hab e => hab (by omega)) h
/-! ### loose gates, by rounds -/
def moreT (gs : List Gt) (bars : List D) (r : Nat) (hs : List Int) (os : List Ow) (bolt : Option Nat) (js : List Nat) : List Nat :=
  ((List.range gs.length).filter fun g => !decide (g ∈ js) && !decide (bolt = some g)).filter fun g => nearL (labW mnT gs bars r js) bars hs (gAt gs g) g (hostL hs.length (owAt os g))
def looseT (gs : List Gt) (bars : List D) (r : Nat) (hs : List Int) (os : List Ow) (bolt : Option Nat) : Nat → List Nat → List Nat
  | 0, js => js
  | k + 1, js => if moreT gs bars r hs os bolt js = [] then js else looseT gs bars r hs os bolt k (js ++ moreT gs bars r hs os bolt js)
theorem more_ok {gs : List Gt} {bars : List D} {r : Nat} {hs : List Int} {os : List Ow} {bolt : Option Nat} {js : List Nat} : (moreT gs bars r hs os bolt js).Nodup ∧ ∀ g ∈ moreT gs bars r hs os bolt js, g < gs.length ∧ g ∉ js := by
  refine ⟨List.Pairwise.filter _ (List.Pairwise.filter _ List.nodup_range), fun g hg => ?_⟩
  have h1 := (List.mem_filter.mp hg).1
  obtain ⟨h2, h3⟩ := List.mem_filter.mp h1
  refine ⟨List.mem_range.mp h2, fun z => ?_⟩
  simp [z] at h3
theorem nodup_le : ∀ {n : Nat} {js : List Nat}, js.Nodup → (∀ g ∈ js, g < n) → js.length ≤ n
  | 0, [], _, _ => Nat.le_refl _
  | 0, j :: js, _, h => absurd (h j List.mem_cons_self) (Nat.not_lt_zero _)
  | n + 1, js, nd, h => by
    have ih := nodup_le (n := n) (js := js.erase n) (nd.erase n) (fun g hg => by
      obtain ⟨h1, h2⟩ := (List.Nodup.mem_erase_iff nd).mp hg
      have := h g h2
      omega)
    rw [List.length_erase] at ih
    split at ih <;> omega
end MI
namespace MI
open PySem
variable {prog : List Fd} {fuel : Nat}
theorem ne_bolt (g : Nat) (b : Option Nat) : opCmp .ne (.int g) (ownD b) = some (!decide (b = some g)) := by
  cases b with
  | none => rfl
  | some n =>
    simp only [ownD, ne_i]
    congr 2
    simp
    omega
/-- a hope of a scene -/
structure Hope (W : Nat) (n : Nat) (os : List Ow) : Prop where
  ln : os.length = n
  ho : ∀ o ∈ os, ∀ v, o = some (some v) → v < W
theorem Hope.at {W n : Nat} {os : List Ow} (h : Hope W n os) {g : Nat} (hg : g < n) : ∀ w ∈ hostL W (owAt os g), w < W := by
  intro w hw
  have hl : g < os.length := by rw [h.ln]; exact hg
  have e : owAt os g = os[g] := by simp [owAt, hl]
  have := h.ho os[g] (List.getElem_mem hl)
  rw [e] at hw
  match ho : os[g], hw with
  | none, hw => simp [hostL] at hw
  | some none, hw => exact List.mem_range.mp hw
  | some (some v), hw =>
    simp [hostL] at hw
    rw [hw]
    exact this v ho
theorem filter2 (p q : Nat → Bool) (ws : List Nat) : (ws.map natD).filterMap (fun d => if p (nat_of d) && q (nat_of d) then some d else none) = (ws.filter fun w => p w && q w).map natD := filter_fm (fun w => p w && q w) ws
@[simp] theorem hope_0 (hs : List Int) (os : List Ow) : opIdx (hopeD hs os) (.int 0) = some (.val (.tuple (hs.map .int))) := rfl
@[simp] theorem hope_1 (hs : List Int) (os : List Ow) : opIdx (hopeD hs os) (.int 1) = some (.val (.tuple (os.map owD))) := rfl
theorem loose_specC {k f ih inr it ip : Nat} (hf : prog[f]? = some (C_loose ih inr it)) (hh : prog[ih]? = some C_hosts) (hn : prog[inr]? = some C_is_near) (ht : prog[it]? = some (C_table ip)) (hp : prog[ip]? = some C_parts) {gs : List Gt} {bars : List D} {r : Nat} {hs : List Int} {os : List Ow} (S : Scene gs bars r hs) (gl : gs.length ≤ 24) (HP : Hope hs.length gs.length os) (bolt : Option Nat) :
    Ret (run prog fuel (k + 3) f ([webD r gs bars, hopeD hs os, ownD bolt].map .sh)) (fun m fin => m = .ol false ((ssetI (nats (looseT gs bars r hs os bolt gs.length []))).map .int) ∧ fin = [webD r gs bars, hopeD hs os, ownD bolt].map .sh) := by
  have wl := S.wl
  have ol : os.length ≤ 1000 := by rw [HP.ln]; exact S.gl
  refine ret_run (fd := C_loose ih inr it) hf rfl (Nat.le_of_ble_eq_true rfl) rfl ?_
  simp [C_loose]
  refine ⟨small_of (by omega) (by omega), ?_⟩
  refine wp_forL (fun i ρ => ∃ js x4 x5 x6 x7, ρ = [some (.sh (webD r gs bars)), some (.sh (hopeD hs os)), some (.sh (ownD bolt)), some (.ol false (js.map natD)), x4, x5, x6, x7, none] ∧ Lo x4 ∧ Fr x5 ∧ Fr x6 ∧ Fr x7 ∧ looseT gs bars r hs os bolt (gs.length - i) js = looseT gs bars r hs os bolt gs.length [] ∧ js.Nodup ∧ (∀ g ∈ js, g < gs.length))
    ⟨[], none, none, none, none, rfl, .inl rfl, .lo (.inl rfl), .lo (.inl rfl), .lo (.inl rfl), rfl, List.nodup_nil, fun _ h => by cases h⟩ ?_ ?_
  · rintro i d ρ hd ⟨js, x4, x5, x6, x7, rfl, y4, y5, y6, y7, el, nd, lt⟩
    obtain ⟨hi, rfl⟩ := rngD_get hd
    have hi : i < gs.length := by simpa using hi
    have jl := nodup_le nd lt
    have el2 : looseT gs bars r hs os bolt (gs.length - i) js = if moreT gs bars r hs os bolt js = [] then js else looseT gs bars r hs os bolt (gs.length - (i + 1)) (js ++ moreT gs bars r hs os bolt js) := by
      have : gs.length - i = (gs.length - (i + 1)) + 1 := by omega
      rw [this]
      rfl
    obtain ⟨mnd, mok⟩ := more_ok (gs := gs) (bars := bars) (r := r) (hs := hs) (os := os) (bolt := bolt) (js := js)
    simp [y4.free]
    refine call_ret (ds := [webD r gs bars, .tuple (hs.map .int), .list (js.map natD)]) rfl (by simp) (table_specC (k := k) ht hp S lt) fun m e => ?_
    subst e
    simp [y5.free]
    refine ⟨small_of (by omega) (by omega), ?_⟩
    rw [rng_nat]
    refine wp_pure (fun d => if (fun g => !decide (g ∈ js)) (nat_of d) && (fun g => !decide (bolt = some g)) (nat_of d) then some d else none) rfl (by simp; omega) (fun x hx => ?_) ?_
    · obtain ⟨g, hg, rfl⟩ := List.mem_map.mp hx
      have e1 := notin_natL g js
      have e2 := ne_bolt g bolt
      simp only [natD] at e1 ⊢
      simp [wipeE, Tg.vars, e1, e2]
      by_cases h1 : g ∈ js <;> by_cases h2 : bolt = some g <;> simp [h1, h2, nat_of, wipeE]
    · rw [filter2 (fun g => !decide (g ∈ js)) (fun g => !decide (bolt = some g))]
      simp [y6.free]
      refine wp_pure (fun d => if (fun g => nearL (labW mnT gs bars r js) bars hs (gAt gs g) g (hostL hs.length (owAt os g))) (nat_of d) then some d else none) rfl (by rw [List.length_map]; exact Nat.le_trans (List.length_filter_le _ _) (by rw [List.length_range]; show gs.length ≤ 16777216; omega)) (fun x hx => ?_) ?_
      · obtain ⟨g, hg, rfl⟩ := List.mem_map.mp hx
        have lg := List.mem_range.mp (List.mem_filter.mp hg).1
        simp [wipeE, Tg.vars]
        refine call_ret (ds := [hopeD hs os, .int g]) rfl (by simp) (hosts_specC (k := k + 1) hh wl (by rw [HP.ln]; exact lg)) fun m e => ?_
        subst e
        simp [natD]
        refine call_own5 rfl rfl (near_specC (k := k + 1) hn S (F := labW mnT gs bars r js) (fun w => labW_len' _ _ _ _ _) (gAt_get lg) (HP.at lg) (.inr rfl)) ?_
        simp [truth]
        refine wpI_of (fun h => ?_) fun h => ?_
        · simp [h, nat_of, wipeE]
        · simp [h, nat_of, wipeE]
      · rw [filter_fm (fun g => nearL (labW mnT gs bars r js) bars hs (gAt gs g) g (hostL hs.length (owAt os g)))]
        rw [show (List.filter _ (List.filter _ (List.range gs.length))) = moreT gs bars r hs os bolt js from rfl]
        generalize moreT gs bars r hs os bolt js = more at el2 mnd mok
        simp [y7.free]
        refine wpI_of (fun h => ?_) fun h => ?_
        · have h : more = [] := by simpa using h
          subst h
          rw [if_pos rfl] at el2
          rw [el2] at el
          have sj := sorted_ints (nats js) (nats_nodup nd) (by simp [nats]; omega)
          rw [nats_map] at sj
          simp [sj, forQ, ← el]
        · have h : ¬ more = [] := by simpa using h
          rw [if_neg h] at el2
          rw [el2] at el
          have ml := nodup_le mnd fun g hg => (mok g hg).1
          refine ⟨by omega, js ++ more, _, _, _, _, by rw [List.map_append], .sh _, .ol _, .lo (.sh _), .ol _, el, ?_, ?_⟩
          · exact List.nodup_append.mpr ⟨nd, mnd, fun a ha b hb e => (mok b hb).2 (e ▸ ha)⟩
          · intro g hg
            rcases List.mem_append.mp hg with h | h
            · exact lt g h
            · exact (mok g h).1
  · rintro ρ ⟨js, x4, x5, x6, x7, rfl, y4, y5, y6, y7, el, nd, lt⟩
    rw [rngD_len, Nat.sub_self] at el
    have el : js = looseT gs bars r hs os bolt gs.length [] := el
    have jl := nodup_le nd lt
    have sj := sorted_ints (nats js) (nats_nodup nd) (by simp [nats]; omega)
    rw [nats_map] at sj
    simp [sj, ← el]
end MI
namespace MI
open PySem
variable {prog : List Fd} {fuel : Nat}
def isIntD : D → Bool
  | .int _ => true
  | _ => false
def btwD (d : D) (lo hi : Int) : Bool := match d with
  | .int i => decide (lo ≤ i) && decide (i ≤ hi)
  | _ => false
def isIdx (n : Nat) (d : D) : Bool := match d with
  | .int i => decide (0 ≤ i) && decide (i < n)
  | _ => false
theorem btw_idx (n : Nat) (d : D) : btwD d 0 ((n : Int) - 1) = isIdx n d := by
  cases d with
  | int i =>
    simp only [btwD, isIdx]
    congr 1
    simp
    omega
  | _ => rfl
theorem integer_specL {k f : Nat} (hf : prog[f]? = some M_is_integer) (d : D) : Ret (run prog fuel (k + 1) f ([d].map .sh)) (fun m fin => m = .sh (.bool (isIntD d)) ∧ fin = [d].map .sh) := by
  refine ret_run (fd := M_is_integer) hf rfl (Nat.le_of_ble_eq_true rfl) rfl ?_
  cases d <;> simp [M_is_integer, isTy, isIntD]
theorem between_specL {k f i : Nat} (hf : prog[f]? = some (M_is_between i)) (hi : prog[i]? = some M_is_integer) (d : D) (lo hi' : Int) : Ret (run prog fuel (k + 2) f ([d, .int lo, .int hi'].map .sh)) (fun m fin => m = .sh (.bool (btwD d lo hi')) ∧ fin = [d, .int lo, .int hi'].map .sh) := by
  refine ret_run (fd := M_is_between i) hf rfl (Nat.le_of_ble_eq_true rfl) rfl ?_
  simp [M_is_between]
  refine call_sh (ds := [d]) rfl (by simp) (integer_specL (k := k) hi d) ?_
  cases d <;> simp [isIntD, btwD]
  refine wpI_of (fun h => ?_) fun h => ?_
  · intro _
    simpa using h
  · intro _
    simp at h
    omega
def gatesT (n : Nat) : D → Bool
  | .tuple xs => xs.all (isIdx n)
  | _ => false
theorem gates_specL {k f ib ii : Nat} (hf : prog[f]? = some (L_are_gates ib)) (hb : prog[ib]? = some (M_is_between ii)) (hi : prog[ii]? = some M_is_integer) {r : Int} {gs : List Gt} {bars : List D} {v : D} (hv : ∀ xs, v = .tuple xs → xs.length ≤ 1000) :
    Ret (run prog fuel (k + 3) f ([webD r gs bars, v].map .sh)) (fun m fin => m = .sh (.bool (gatesT gs.length v)) ∧ fin = [webD r gs bars, v].map .sh) := by
  refine ret_run (fd := L_are_gates ib) hf rfl (Nat.le_of_ble_eq_true rfl) rfl ?_
  cases v with
  | tuple xs =>
    have hl := hv xs rfl
    simp [L_are_gates, isTy]
    refine wp_pure (fun d => some (.bool (isIdx gs.length d))) rfl (Nat.le_trans hl (by decide)) (fun x hx => ?_) ?_
    · simp [wipeE, Tg.vars]
      refine call_sh (ds := [x, .int 0, .int (gs.length - 1)]) rfl (by simp) (between_specL (k := k) hb hi x 0 _) ?_
      simp [wipeE, btw_idx]
    · have e : xs.filterMap (fun d => some (PyData.bool (isIdx gs.length d))) = xs.map fun x => .bool (isIdx gs.length x) := by simp
      rw [e]
      simp [all_map, gatesT]
  | _ => simp [L_are_gates, isTy, gatesT]
/-- ascending -/
def ascT : List Nat → Bool
  | a :: b :: r => decide (a < b) && ascT (b :: r)
  | _ => true
theorem gates_nat {n : Nat} {xs : List D} (h : xs.all (isIdx n) = true) : ∃ js : List Nat, xs = js.map natD ∧ ∀ j ∈ js, j < n := by
  obtain ⟨js, e, p⟩ := exL (f := natD) (P := fun j => j < n) (xs := xs) fun x hx => by
    have := List.all_eq_true.mp h x hx
    cases x with
    | int i =>
      simp only [isIdx, Bool.and_eq_true, decide_eq_true_eq] at this
      exact ⟨i.toNat, by simp [natD]; omega, by omega⟩
    | _ => cases this
  exact ⟨js, e, p⟩
def pairLt : D → Option D
  | .tuple [.int a, .int b] => some (.bool (decide (a < b)))
  | _ => none
theorem asc_zip : ∀ js : List Nat, opB1 .all (.list ((zipD (js.map natD) ((js.map natD).drop 1)).filterMap pairLt)) = some (.val (.bool (ascT js)))
  | [] => rfl
  | [a] => rfl
  | a :: b :: r => by
    have ih := asc_zip (b :: r)
    have ih' : (boolsOf ((zipD ((b :: r).map natD) (((b :: r).map natD).drop 1)).filterMap pairLt)).map (fun bs => R.val (.bool (bs.all id))) = some (.val (.bool (ascT (b :: r)))) := ih
    show (boolsOf _).map _ = _
    have e : (zipD ((a :: b :: r).map natD) (((a :: b :: r).map natD).drop 1)).filterMap pairLt = .bool (decide ((a : Int) < b)) :: (zipD ((b :: r).map natD) (((b :: r).map natD).drop 1)).filterMap pairLt := by
      simp [zipD, natD, pairLt]
    rw [e]
    simp only [boolsOf]
    cases hb : boolsOf ((zipD ((b :: r).map natD) (((b :: r).map natD).drop 1)).filterMap pairLt) with
    | none => rw [hb] at ih'; cases ih'
    | some bs =>
      rw [hb] at ih'
      simp at ih'
      simp [ascT, ih']
theorem asc_pair : ∀ js : List Nat, ascT js = true ↔ (nats js).Pairwise (· < ·)
  | [] => by simp [ascT, nats]
  | [a] => by simp [ascT, nats]
  | a :: b :: r => by
    have ih := asc_pair (b :: r)
    simp only [ascT, Bool.and_eq_true, decide_eq_true_eq, ih]
    simp only [nats, List.map_cons] at ih ⊢
    constructor
    · rintro ⟨h1, h2⟩
      refine List.pairwise_cons.mpr ⟨fun c hc => ?_, h2⟩
      rcases List.mem_cons.mp hc with rfl | hc
      · omega
      · have := (List.pairwise_cons.mp h2).1 c hc
        omega
    · intro h
      obtain ⟨h1, h2⟩ := List.pairwise_cons.mp h
      have := h1 b List.mem_cons_self
      exact ⟨by omega, h2⟩
theorem asc_sset (js : List Nat) : decide (nats js = ssetI (nats js)) = ascT js := by
  by_cases h : ascT js = true
  · rw [h, decide_eq_true]
    exact sorted_eq ((asc_pair js).mp h) (ssetI_lt _) fun z => ssetI_mem.symm
  · have h' : ascT js = false := by simpa using h
    rw [h', decide_eq_false]
    intro e
    have := ssetI_lt (nats js)
    rw [← e] at this
    exact h ((asc_pair js).mpr this)
def lotT (n : Nat) (v : D) : Bool := match v with
  | .tuple xs => xs.all (isIdx n) && ascT (xs.map nat_of)
  | _ => false
theorem nat_of_map (js : List Nat) : (js.map natD).map nat_of = js := by
  rw [List.map_map]
  exact (List.map_congr_left fun j _ => nat_of_nat j).trans (List.map_id _)
theorem cut1 (xs : List D) : cutL xs (some 1) none = xs.drop 1 := by
  cases xs with
  | nil => rfl
  | cons x xs => exact cut_drop (by decide) (by simp only [List.length_cons]; omega)
theorem lot_specL {k f ig ib ii : Nat} (hf : prog[f]? = some (L_is_lot ig)) (hg : prog[ig]? = some (L_are_gates ib)) (hb : prog[ib]? = some (M_is_between ii)) (hi : prog[ii]? = some M_is_integer) {r : Int} {gs : List Gt} {bars : List D} {v : D} (hv : ∀ xs, v = .tuple xs → xs.length ≤ 1000) :
    Ret (run prog fuel (k + 4) f ([webD r gs bars, v].map .sh)) (fun m fin => m = .sh (.bool (lotT gs.length v)) ∧ fin = [webD r gs bars, v].map .sh) := by
  refine ret_run (fd := L_is_lot ig) hf rfl (Nat.le_of_ble_eq_true rfl) rfl ?_
  simp [L_is_lot]
  refine call_sh (ds := [webD r gs bars, v]) rfl (by simp) (gates_specL (k := k) hg hb hi hv) ?_
  cases hgt : gatesT gs.length v with
  | false =>
    have e : lotT gs.length v = false := by
      cases v <;> first | rfl | skip
      simp only [gatesT] at hgt
      simp only [lotT, hgt, Bool.false_and]
    simp [e]
  | true =>
    cases v <;> try (cases hgt; done)
    rename_i xs
    have hl := hv xs rfl
    obtain ⟨js, rfl, hj⟩ := gates_nat (n := gs.length) hgt
    rw [List.length_map] at hl
    have zt : ∀ xs ys : List D, zipOf (.tuple xs) (.tuple ys) = some (zipD xs ys) := fun _ _ => rfl
    simp [zt]
    rw [cut1]
    have zl : ∀ (xs ys : List D), (zipD xs ys).length ≤ xs.length := by
      intro xs
      induction xs with
      | nil => intro ys; cases ys <;> simp [zipD]
      | cons x xs ih =>
        intro ys
        cases ys with
        | nil => simp [zipD]
        | cons y ys => have := ih ys; simp [zipD]; exact this
    refine wp_pure pairLt rfl (Nat.le_trans (zl _ _) (by rw [List.length_map]; exact Nat.le_trans hl (by decide))) (fun x hx => ?_) ?_
    · have hd : (js.map natD).drop 1 = (js.drop 1).map natD := (List.map_drop ..).symm
      rw [hd, zipD_map] at hx
      obtain ⟨z, hz, rfl⟩ := List.mem_map.mp hx
      simp [wipeE, Tg.vars, Tg.varss, natD, pairLt]
    · show wpO (opB1 .all (.list (List.filterMap _ _))) _
      rw [asc_zip]
      have hgt' : (js.map natD).all (isIdx gs.length) = true := hgt
      have nm := nat_of_map js
      simp only [lotT, hgt', nm, Bool.true_and]
      simp
end MI
namespace MI
open PySem
/-! ### calls, generally -/
theorem back_sames (ρ : Env) (rs : List R) : ∀ (src : List Arg) (ms : List M), argsOf ρ rs src = some ms → backOf ρ (ownsOf ρ rs src) ms = ρ ∧ kinds ms ms = true
  | [], ms, h => by
    simp only [argsOf] at h
    cases h
    exact ⟨rfl, rfl⟩
  | .d x :: as, ms, h => by
    simp only [argsOf, Option.map_eq_some_iff] at h
    obtain ⟨ms', h, rfl⟩ := h
    obtain ⟨h1, h2⟩ := back_sames ρ rs as ms' h
    refine ⟨?_, ?_⟩
    · simp only [ownsOf, backOf]
      exact h1
    · simp [kinds, h2]
  | .e k :: as, ms, h => by
    simp only [argsOf, Option.bind_eq_some_iff, Option.map_eq_some_iff] at h
    obtain ⟨r, hr, m, hm, ms', h, rfl⟩ := h
    obtain ⟨h1, h2⟩ := back_sames ρ rs as ms' h
    have hk : kinds (m :: ms') (m :: ms') = true := by
      cases m <;> simp [kinds, h2]
    refine ⟨?_, hk⟩
    cases r with
    | own i =>
      simp only [R.arg, Option.bind_eq_some_iff] at hm
      obtain ⟨m0, g0, hm⟩ := hm
      simp only [ownsOf, hr, g0, Option.map_some, Option.getD_some]
      cases m0 with
      | ol p xs =>
        cases hm
        simp only [M.isOwn, if_pos, backOf, g0]
        rw [set_same g0]
        exact h1
      | od p xs =>
        cases hm
        simp only [M.isOwn, if_pos, backOf, g0]
        rw [set_same g0]
        exact h1
      | sh d => simp [M.isOwn, backOf, h1]
      | ob C fs => simp [M.isOwn, backOf, h1]
      | sc ns => simp [M.isOwn, backOf, h1]
    | _ => simp only [ownsOf, hr, backOf]; exact h1
/-- a call that leaves what it was lent as it was -/
theorem call_same {cx : Cxt} {f : Nat} {ρ : Env} {rs : List R} {src : List Arg} {P : M → Prop} {Q : R → Env → Prop} (ms : List M) (ha : argsOf ρ rs src = some ms) (hn : ((ownsOf ρ rs src).filterMap id).Nodup) (hs : srcOk rs.length src = true) (hr : Ret (cx.φ f ms) (fun m fin => P m ∧ fin = ms)) (h : ∀ m, P m → Q m.res ρ) : Wp (callR cx f rs src ρ) Q := by
  obtain ⟨h1, h2⟩ := back_sames ρ rs src ms ha
  refine wp_call ha hn hs hr ?_
  rintro m fin ⟨p, rfl⟩
  exact ⟨h2, by rw [h1]; exact h m p⟩
end MI
namespace MI
open PySem
variable {prog : List Fd} {fuel : Nat}
/-! ### barriers: the program's side -/
def L_is_unlike (i_is_open : Nat) : Fd := ⟨3, 3, [.ret (.and (.not (.call i_is_open [.idx (.idx (.var 1) (.int 1)) (.var 2)] [true] [.e 0])) (.cmp .ne (.idx (.idx (.var 1) (.int 1)) (.var 2)) (.idx (.idx (.var 0) (.int 1)) (.var 2))))]⟩
def L_is_cut_off (i_labels_by : Nat) (i_outside_of : Nat) : Fd := ⟨5, 6, [.asg 5 (.idx (.call i_labels_by [.var 0, .bi1 .len (.idx (.var 2) (.int 0)), .call i_outside_of [.var 0, .var 3] [true, true] [.e 0, .e 1]] [true, false, false] [.e 0, .e 1, .e 2]) (.var 4)), .ret (.cmp .ne (.idx (.var 5) (.idx (.idx (.var 1) (.int 0)) (.var 4))) (.idx (.var 5) (.idx (.idx (.var 2) (.int 0)) (.var 4))))]⟩
def L_is_reason (i_is_between : Nat) (i_is_cut_off : Nat) (i_is_unlike : Nat) : Fd := ⟨5, 7, [.ite (.or (.not (.isa (.var 4) [.tuple] false)) (.or (.cmp .ne (.bi1 .len (.var 4)) (.int 2)) (.not (.isa (.idx (.var 4) (.int 0)) [.str] false)))) [.ret (.bl false)] [], .unp [5, 6] (.var 4), .ite (.cmp .eq (.var 5) (.glo "GATE" (.str (PySem.Str.ofString "gate")))) [.ret (.and (.call i_is_between [.var 6, .int 0, .bin .sub (.bi1 .len (.idx (.var 0) (.int 1))) (.int 1)] [true, true, true] [.e 0, .e 1, .e 2]) (.and (.cmp .isin (.var 6) (.var 3)) (.call i_is_unlike [.var 1, .var 2, .var 6] [true, true, true] [.e 0, .e 1, .e 2])))] [], .ret (.and (.cmp .eq (.var 5) (.glo "WALKER" (.str (PySem.Str.ofString "walker")))) (.and (.call i_is_between [.var 6, .int 0, .bin .sub (.bi1 .len (.idx (.var 2) (.int 0))) (.int 1)] [true, true, true] [.e 0, .e 1, .e 2]) (.call i_is_cut_off [.var 0, .var 1, .var 2, .var 3, .var 6] [true, true, true, true, true] [.e 0, .e 1, .e 2, .e 3, .e 4])))]⟩
def L_is_barrier (i_is_closed : Nat) (i_is_lot : Nat) (i_is_reason : Nat) (i_wished_hosts : Nat) : Fd := ⟨4, 7, [.ite (.or (.not (.isa (.var 3) [.tuple] false)) (.or (.cmp .ne (.bi1 .len (.var 3)) (.int 3)) (.or (.not (.isa (.idx (.var 3) (.int 0)) [.str] false)) (.cmp .ne (.idx (.var 3) (.int 0)) (.glo "BARRIER" (.str (PySem.Str.ofString "barrier"))))))) [.ret (.bl false)] [], .unp [4, 5, 6] (.var 3), .ite (.or (.not (.call i_is_lot [.var 0, .var 5] [true, false] [.e 0, .e 1])) (.not (.call i_is_closed [.var 0, .idx (.var 2) (.int 0), .call i_wished_hosts [.var 0, .var 2] [true, false] [.e 0, .e 1], .var 5] [true, true, true, false] [.e 0, .e 1, .e 2, .e 3]))) [.ret (.bl false)] [], .ret (.call i_is_reason [.var 0, .var 1, .var 2, .var 5, .var 6] [true, true, true, true, false] [.e 0, .e 1, .e 2, .e 3, .e 4])]⟩
theorem eq_ow (a b : Ow) : opCmp .eq (owD a) (owD b) = some (decide (a = b)) := by
  match b with
  | some none => exact eq_any a
  | none =>
    match a with
    | none => rfl
    | some none => rfl
    | some (some n) => rfl
  | some (some m) =>
    match a with
    | none => rfl
    | some none => rfl
    | some (some n) =>
      simp only [owD, eq_i]
      congr 1
      simp
      omega
theorem ne_ow (a b : Ow) : opCmp .ne (owD a) (owD b) = some (!decide (a = b)) := by
  show (opCmp .eq _ _).map not = _
  rw [eq_ow]
  rfl
theorem at_ow {os : List Ow} {g : Nat} (hg : g < os.length) : atD (os.map owD) g = some (owD (owAt os g)) := at_natA (by rw [List.getElem?_map, List.getElem?_eq_getElem hg]; simp [owAt, hg])
def unlT (ls os : List Ow) (g : Nat) : Bool := !decide (owAt os g = some none) && !decide (owAt os g = owAt ls g)
theorem unlike_specL {k f io : Nat} (hf : prog[f]? = some (L_is_unlike io)) (ho : prog[io]? = some L_is_open) {hs ks : List Int} {ls os : List Ow} {g : Nat} (h1 : g < ls.length) (h2 : g < os.length) :
    Ret (run prog fuel (k + 2) f ([hopeD hs ls, hopeD ks os, .int g].map .sh)) (fun m fin => m = .sh (.bool (unlT ls os g)) ∧ fin = [hopeD hs ls, hopeD ks os, .int g].map .sh) := by
  refine ret_run (fd := L_is_unlike io) hf rfl (Nat.le_of_ble_eq_true rfl) rfl ?_
  simp [L_is_unlike, at_ow h1, at_ow h2]
  refine call_sh (ds := [owD (owAt os g)]) rfl (by simp) (open_specL (k := k) ho (owAt os g)) ?_
  simp
  refine wpI_of (fun h => ?_) fun h => ?_
  · simp [ne_ow, unlT, at_ow h1, at_ow h2]
    simp at h
    simp [h]
  · simp [unlT]
    simp at h
    simp [h]
def roomAt (hs : List Int) (w : Nat) : Int := hs[w]?.getD 0
def cutT (f : Row → Int → Int → Row) (gs : List Gt) (bars : List D) (r : Nat) (hs ks : List Int) (lot : List Nat) (w : Nat) : Bool :=
  atR (labW f gs bars r (outT gs.length lot) w) (roomAt hs w) != atR (labW f gs bars r (outT gs.length lot) w) (roomAt ks w)
theorem cut_specL {k f iout : Nat} {I : LbIx} (hf : prog[f]? = some (L_is_cut_off I.lby iout)) (ho : prog[iout]? = some L_outside_of) (h : HasLb prog I) {gs : List Gt} {bars : List D} {r : Nat} {hs ks : List Int} (S : Scene gs bars r ks) (hh : ∀ a ∈ hs, 0 ≤ a ∧ a < r) (hl : hs.length = ks.length) {ls os : List Ow} {lot : List Nat} {w : Nat} (hw : w < ks.length) :
    Ret (run prog fuel (k + 4) f ([webD r gs bars, hopeD hs ls, hopeD ks os, .tuple (lot.map natD), .int w].map .sh)) (fun m fin => m = .sh (.bool (cutT mgT gs bars r hs ks lot w)) ∧ fin = [webD r gs bars, hopeD hs ls, hopeD ks os, .tuple (lot.map natD), .int w].map .sh) := by
  have w1 : w < hs.length := by omega
  have e1 : hs[w]? = some (roomAt hs w) := by simp [roomAt, w1]
  have e2 : ks[w]? = some (roomAt ks w) := by simp [roomAt, hw]
  obtain ⟨p0, p1⟩ := hh _ (List.mem_of_getElem? e1)
  obtain ⟨q0, q1⟩ := S.hh _ (List.mem_of_getElem? e2)
  have ll := labW_len r gs bars (outT gs.length lot) w
  refine ret_run (fd := L_is_cut_off I.lby iout) hf rfl (Nat.le_of_ble_eq_true rfl) rfl ?_
  simp [L_is_cut_off]
  refine call_ret (ds := [webD r gs bars, .tuple (lot.map natD)]) rfl (by simp) (outside_specL (k := k + 2) ho S.gl lot) fun m e => ?_
  subst e
  simp
  refine call_ret (ds := [webD r gs bars, .int ks.length, .list ((outT gs.length lot).map natD)]) rfl (by simp) (S.labels (k := k) h outT_lt) fun m e => ?_
  subst e
  have er : atD ((List.range ks.length).map fun w => PyData.list ((labW mgT gs bars r (outT gs.length lot) w).map .int)) w = some (.list ((labW mgT gs bars r (outT gs.length lot) w).map .int)) := at_rows hw
  simp [er, rowD, get_room e1, get_room e2, at_row (row := labW mgT gs bars r (outT gs.length lot) w) p0 (by rw [ll]; exact p1), at_row (row := labW mgT gs bars r (outT gs.length lot) w) q0 (by rw [ll]; exact q1)]
  simp only [cutT, bne, Bool.not_not]
  exact Bool.beq_eq_decide_eq _ _ |>.symm
def strIs (s : String) : D → Bool
  | .str x => x == Str.ofString s
  | _ => false
def reasT (gs : List Gt) (bars : List D) (r : Nat) (hs ks : List Int) (ls os : List Ow) (lot : List Nat) (v : D) : Bool := match v with
  | .tuple [.str w, ix] => if w == Str.ofString "gate" then isIdx gs.length ix && (decide (nat_of ix ∈ lot) && unlT ls os (nat_of ix)) else w == Str.ofString "walker" && (isIdx ks.length ix && cutT mgT gs bars r hs ks lot (nat_of ix))
  | _ => false
theorem reas_no {gs : List Gt} {bars : List D} {r : Nat} {hs ks : List Int} {ls os : List Ow} {lot : List Nat} {v : D} (h : ∀ w ix, v ≠ .tuple [.str w, ix]) : reasT gs bars r hs ks ls os lot v = false := by
  unfold reasT
  split
  · exact absurd rfl (h _ _)
  · rfl
/-- a pair with a word, or how it is none -/
theorem two_of (v : D) : (isTy .tuple v = false ∧ ∀ w ix, v ≠ .tuple [.str w, ix]) ∨ (∃ xs, v = .tuple xs ∧ ¬ ((xs.length : Int) = 2) ∧ ∀ w ix, PyData.tuple xs ≠ .tuple [.str w, ix]) ∨ (∃ w ix, v = .tuple [w, ix] ∧ isTy .str w = false ∧ ∀ w' ix', PyData.tuple [w, ix] ≠ .tuple [.str w', ix']) ∨ ∃ w ix, v = .tuple [.str w, ix] := by
  cases v with
  | tuple xs =>
    by_cases h : xs.length = 2
    · match xs, h with
      | [w, ix], _ =>
        cases w with
        | str w => exact .inr (.inr (.inr ⟨w, ix, rfl⟩))
        | _ => exact .inr (.inr (.inl ⟨_, ix, rfl, rfl, fun _ _ e => by cases e⟩))
    · exact .inr (.inl ⟨xs, rfl, by omega, fun w ix e => h (by cases e; rfl)⟩)
  | _ => exact .inl ⟨rfl, fun _ _ e => by cases e⟩
theorem isin_natP (g : Nat) (js : List Nat) : opCmp .isin (.int g) (.tuple (js.map natD)) = some (decide (g ∈ js)) := isin_nat g js
theorem idx_nat {n : Nat} {d : D} (h : isIdx n d = true) : ∃ j : Nat, d = .int j ∧ j < n := by
  cases d with
  | int i =>
    simp only [isIdx, Bool.and_eq_true, decide_eq_true_eq] at h
    exact ⟨i.toNat, by congr 1; omega, by omega⟩
  | _ => cases h
theorem nat_of_int (j : Nat) : nat_of (.int (j : Int)) = j := by simp [nat_of]
theorem isTy_tt (xs : List D) : isTy .tuple (.tuple xs) = true := rfl
theorem isTy_ss (x : Str) : isTy .str (.str x) = true := rfl
theorem reason_specL {k f ib ii ic iu io iout : Nat} {I : LbIx} (hf : prog[f]? = some (L_is_reason ib ic iu)) (hb : prog[ib]? = some (M_is_between ii)) (hi : prog[ii]? = some M_is_integer) (hc : prog[ic]? = some (L_is_cut_off I.lby iout)) (ho : prog[iout]? = some L_outside_of) (hu : prog[iu]? = some (L_is_unlike io)) (hop : prog[io]? = some L_is_open) (h : HasLb prog I)
    {gs : List Gt} {bars : List D} {r : Nat} {hs ks : List Int} (S : Scene gs bars r ks) (hh : ∀ a ∈ hs, 0 ≤ a ∧ a < r) (hl : hs.length = ks.length) {ls os : List Ow} (l1 : ls.length = gs.length) (l2 : os.length = gs.length) {lot : List Nat} (v : D) :
    Ret (run prog fuel (k + 5) f ([webD r gs bars, hopeD hs ls, hopeD ks os, .tuple (lot.map natD), v].map .sh)) (fun m fin => m = .sh (.bool (reasT gs bars r hs ks ls os lot v)) ∧ fin = [webD r gs bars, hopeD hs ls, hopeD ks os, .tuple (lot.map natD), v].map .sh) := by
  refine ret_run (fd := L_is_reason ib ic iu) hf rfl (Nat.le_of_ble_eq_true rfl) rfl ?_
  rcases two_of v with ⟨hn, hv⟩ | ⟨xs, rfl, hn, hv⟩ | ⟨w, ix, rfl, hn, hv⟩ | ⟨w, ix, rfl⟩
  · have e : reasT gs bars r hs ks ls os lot v = false := reas_no hv
    simp [L_is_reason, hn, e]
  · have e : reasT gs bars r hs ks ls os lot (.tuple xs) = false := reas_no hv
    simp [L_is_reason, isTy_tt, hn, e]
  · have e : reasT gs bars r hs ks ls os lot (.tuple [w, ix]) = false := reas_no hv
    simp [L_is_reason, isTy_tt, hn, e]
  · simp [L_is_reason, isTy_tt, isTy_ss]
    simp [eq_ss]
    refine wpI_of (fun hg => ?_) fun hg => ?_
    · refine call_sh (ds := [ix, .int 0, .int (gs.length - 1)]) rfl (by simp) (between_specL (k := k + 2) hb hi ix 0 _) ?_
      simp [btw_idx]
      refine wpI_of (fun hx => ?_) fun hx => ?_
      · obtain ⟨j, rfl, hj⟩ := idx_nat hx
        simp [isin_natP]
        refine wpI_of (fun hm => ?_) fun hm => ?_
        · refine call_sh (ds := [hopeD hs ls, hopeD ks os, .int j]) rfl (by simp) (unlike_specL (k := k + 2) hu hop (by omega) (by omega)) ?_
          simp [reasT, hg, hx, nat_of_int]
          simp at hm
          exact fun _ => hm
        · simp [reasT, hg, hx, nat_of_int]
          simp at hm
          simp [hm]
      · simp [reasT, hg, hx]
    · refine wpI_of (fun hw => ?_) fun hw => ?_
      · refine call_sh (ds := [ix, .int 0, .int (ks.length - 1)]) rfl (by simp) (between_specL (k := k + 2) hb hi ix 0 _) ?_
        simp [btw_idx]
        refine wpI_of (fun hx => ?_) fun hx => ?_
        · obtain ⟨j, rfl, hj⟩ := idx_nat hx
          refine call_same ([webD r gs bars, hopeD hs ls, hopeD ks os, .tuple (lot.map natD), .int j].map .sh) (by simp [argsOf, R.arg]) (by simp [ownsOf]) (by simp [srcOk]) (cut_specL (k := k) hc ho h S hh hl hj) fun m e => ?_
          subst e
          simp [reasT, hg, hw, hx, nat_of_int]
        · simp [reasT, hg, hw, hx]
      · simp [reasT, hg, hw]
def barT (gs : List Gt) (bars : List D) (r : Nat) (hs ks : List Int) (ls os : List Ow) (v : D) : Bool := match v with
  | .tuple [w, .tuple lot, rv] => strIs "barrier" w && (lotT gs.length (.tuple lot) && (closedT gs bars r ks (fun g => whT bars ks.length g (owAt os g)) (lot.map nat_of) && reasT gs bars r hs ks ls os (lot.map nat_of) rv))
  | _ => false
end MI
namespace MI
open PySem
variable {prog : List Fd} {fuel : Nat}
/-- where the functions of barriers stand -/
structure BrIx where
  (lb : LbIx)
  (clo near out lot gates btw int reas cut unl opn wish host : Nat)
structure HasBr (prog : List Fd) (ib : Nat) (J : BrIx) : Prop where
  bar : prog[ib]? = some (L_is_barrier J.clo J.lot J.reas J.wish)
  lb : HasLb prog J.lb
  clo : prog[J.clo]? = some (L_is_closed J.near J.lb.lby J.out)
  near : prog[J.near]? = some (L_is_near J.lb.ends)
  out : prog[J.out]? = some L_outside_of
  lot : prog[J.lot]? = some (L_is_lot J.gates)
  gates : prog[J.gates]? = some (L_are_gates J.btw)
  btw : prog[J.btw]? = some (M_is_between J.int)
  int : prog[J.int]? = some M_is_integer
  reas : prog[J.reas]? = some (L_is_reason J.btw J.cut J.unl)
  cut : prog[J.cut]? = some (L_is_cut_off J.lb.lby J.out)
  unl : prog[J.unl]? = some (L_is_unlike J.opn)
  opn : prog[J.opn]? = some L_is_open
  wish : prog[J.wish]? = some (L_wished_hosts J.host J.opn J.lb.may)
  host : prog[J.host]? = some (L_hosts_of J.lb.may)
theorem whT_mem {bars : List D} {W g : Nat} {o : Ow} {w : Nat} : w ∈ whT bars W g o ↔ w ∈ hostL W o ∧ freeG bars w g = true := by
  match o with
  | none => simp [whT, hostL]
  | some none => simp [whT, hostL, List.mem_filter]
  | some (some n) =>
    simp only [whT, hostL]
    by_cases h : freeG bars n g = true
    · rw [if_pos h]
      simp only [List.mem_singleton]
      exact ⟨fun e => ⟨e, e ▸ h⟩, fun e => e.1⟩
    · rw [if_neg h]
      simp only [List.not_mem_nil, List.mem_singleton, false_iff]
      rintro ⟨rfl, q⟩
      exact h q
theorem hostL_len (W : Nat) (o : Ow) : (hostL W o).length ≤ W + 1 := by
  match o with
  | none => simp [hostL]
  | some none => simp [hostL]
  | some (some n) => simp [hostL]
theorem whT_len (bars : List D) (W g : Nat) (o : Ow) : (whT bars W g o).length ≤ W + 1 := by
  match o with
  | none => simp [whT]
  | some none => simp only [whT]; exact Nat.le_trans (List.length_filter_le _ _) (by simp)
  | some (some n) => simp only [whT]; split <;> simp
theorem lot_nats {n : Nat} {xs : List D} (h : lotT n (.tuple xs) = true) : ∃ js : List Nat, xs = js.map natD ∧ (∀ j ∈ js, j < n) ∧ ascT js = true ∧ xs.map nat_of = js := by
  simp only [lotT, Bool.and_eq_true] at h
  obtain ⟨js, rfl, hj⟩ := gates_nat h.1
  have e := nat_of_map js
  exact ⟨js, rfl, hj, by rw [e] at h; exact h.2, e⟩
theorem bar_no {gs : List Gt} {bars : List D} {r : Nat} {hs ks : List Int} {ls os : List Ow} {v : D} (h : ∀ w l b, v ≠ .tuple [.str w, .tuple l, b]) : barT gs bars r hs ks ls os v = false := by
  unfold barT
  split
  · rename_i w l b
    cases w with
    | str w => exact absurd rfl (h _ _ _)
    | _ => rfl
  · rfl
/-- three parts, the first a word, or how it is none -/
theorem three_of (v : D) : (isTy .tuple v = false ∧ ∀ w l b, v ≠ .tuple [.str w, l, b]) ∨ (∃ xs, v = .tuple xs ∧ ¬ ((xs.length : Int) = 3) ∧ ∀ w l b, PyData.tuple xs ≠ .tuple [.str w, l, b]) ∨ (∃ w l b, v = .tuple [w, l, b] ∧ isTy .str w = false ∧ ∀ w' l' b', PyData.tuple [w, l, b] ≠ .tuple [.str w', l', b']) ∨ ∃ w l b, v = .tuple [.str w, l, b] := by
  cases v with
  | tuple xs =>
    by_cases h : xs.length = 3
    · match xs, h with
      | [w, l, b], _ =>
        cases w with
        | str w => exact .inr (.inr (.inr ⟨w, l, b, rfl⟩))
        | _ => exact .inr (.inr (.inl ⟨_, l, b, rfl, rfl, fun _ _ _ e => by cases e⟩))
    · exact .inr (.inl ⟨xs, rfl, by omega, fun w l b e => h (by cases e; rfl)⟩)
  | _ => exact .inl ⟨rfl, fun _ _ _ e => by cases e⟩
theorem barrier_specL {k ib : Nat} {J : BrIx} (B : HasBr prog ib J) {gs : List Gt} {bars : List D} {r : Nat} {hs ks : List Int} (S : Scene gs bars r ks) (hh : ∀ a ∈ hs, 0 ≤ a ∧ a < r) (hl : hs.length = ks.length) {ls os : List Ow} (l1 : ls.length = gs.length) (HP : Hope ks.length gs.length os) (wl : ks.length ≤ 900) {v : D} (hv : ∀ a l b, v = .tuple [a, .tuple l, b] → l.length ≤ 1000) :
    Ret (run prog fuel (k + 6) ib ([webD r gs bars, hopeD hs ls, hopeD ks os, v].map .sh)) (fun m fin => m = .sh (.bool (barT gs bars r hs ks ls os v)) ∧ fin = [webD r gs bars, hopeD hs ls, hopeD ks os, v].map .sh) := by
  refine ret_run (fd := L_is_barrier J.clo J.lot J.reas J.wish) B.bar rfl (Nat.le_of_ble_eq_true rfl) rfl ?_
  rcases three_of v with ⟨hn, hw⟩ | ⟨xs, rfl, hn, hw⟩ | ⟨w, lot, rv, rfl, hn, hw⟩ | ⟨w, lot, rv, rfl⟩
  · have e : barT gs bars r hs ks ls os v = false := bar_no fun w l b => hw w _ b
    simp [L_is_barrier, hn, e]
  · have e : barT gs bars r hs ks ls os (.tuple xs) = false := bar_no fun w l b => hw w _ b
    simp [L_is_barrier, isTy_tt, hn, e]
  · have e : barT gs bars r hs ks ls os (.tuple [w, lot, rv]) = false := bar_no fun w l b => hw w _ b
    simp [L_is_barrier, isTy_tt, hn, e]
  · simp [L_is_barrier, isTy_tt, isTy_ss]
    simp [ne_ss']
    refine wpI_of (fun hg => ?_) fun hg => ?_
    · have hg' : ¬ w = Str.ofString "barrier" := by simpa using hg
      have e : barT gs bars r hs ks ls os (.tuple [.str w, lot, rv]) = false := by
        cases lot <;> simp [barT, strIs, hg']
      simp [e]
    · have hg' : w = Str.ofString "barrier" := by simpa using hg
      have hvl : ∀ ys, lot = .tuple ys → ys.length ≤ 1000 := fun ys e => hv (.str w) ys rv (by rw [e])
      refine call_sh (ds := [webD r gs bars, lot]) rfl (by simp) (lot_specL (k := k + 1) B.lot B.gates B.btw B.int hvl) ?_
      cases hlt : lotT gs.length lot with
      | false =>
        have e : barT gs bars r hs ks ls os (.tuple [.str w, lot, rv]) = false := by
          cases lot <;> simp [barT, hlt]
        simp [e]
      | true =>
        cases lot <;> try (cases hlt; done)
        rename_i ys
        obtain ⟨js, rfl, hj, ha, en⟩ := lot_nats hlt
        have jl : js.length ≤ 1000 := by have := hvl _ rfl; rwa [List.length_map] at this
        simp
        refine call_ret (ds := [webD r gs bars, hopeD ks os]) rfl (by simp) (wished_specL (k := k + 2) B.wish B.host B.opn B.lb.may S.pb S.wl (by rw [HP.ln]; exact S.gl)) fun m e => ?_
        subst e
        simp
        rw [HP.ln]
        refine call_sh (ds := [webD r gs bars, .tuple (ks.map .int), .list ((List.range gs.length).map fun g => .tuple ((whT bars ks.length g (owAt os g)).map natD)), .tuple (js.map natD)]) rfl (by simp) (closed_specL (k := k + 1) B.clo B.near B.out B.lb S (H := fun g => whT bars ks.length g (owAt os g)) ?_ (fun g => Nat.le_trans (whT_len _ _ _ _) (by omega)) hj jl) ?_
        · intro g w hw
          have hw := (whT_mem.mp hw).1
          by_cases hg : g < gs.length
          · exact HP.at hg w hw
          · have : owAt os g = none := by unfold owAt; rw [List.getElem?_eq_none (by rw [HP.ln]; omega)]; rfl
            rw [this] at hw
            cases hw
        · simp
          refine wpI_of (fun hc => ?_) fun hc => ?_
          · simp at hc
            simp [barT, en, hc]
          · simp at hc
            refine call_same ([webD r gs bars, hopeD hs ls, hopeD ks os, .tuple (js.map natD), rv].map .sh) (by simp [argsOf, R.arg]) (by simp [ownsOf]) (by simp [srcOk]) (reason_specL (k := k) B.reas B.btw B.int B.cut B.out B.unl B.opn B.lb S hh hl l1 HP.ln rv) fun m e => ?_
            subst e
            simp [barT, strIs, hg', hlt, en, hc]
end MI
namespace MI
open PySem
variable {prog : List Fd} {fuel : Nat}
/-! ### barriers: the law's side -/
def C_is_unlike : Fd := ⟨3, 3, [.ret (.and (.cmp .ne (.idx (.idx (.var 1) (.int 1)) (.var 2)) (.str "any")) (.cmp .ne (.idx (.idx (.var 1) (.int 1)) (.var 2)) (.idx (.idx (.var 0) (.int 1)) (.var 2))))]⟩
def C_is_cut (i_parts : Nat) : Fd := ⟨5, 7, [.asg 5 (.call i_parts [.var 0, .var 4, .comp (.var 6) (.name 6) (.rng [.bi1 .len (.idx (.var 0) (.int 1))]) (some (.cmp .notin (.var 6) (.var 3)))] [true, false, false] [.e 0, .e 1, .e 2]), .ret (.cmp .ne (.idx (.var 5) (.idx (.idx (.var 1) (.int 0)) (.var 4))) (.idx (.var 5) (.idx (.idx (.var 2) (.int 0)) (.var 4))))]⟩
def C_is_reason (i_is_cut : Nat) (i_is_unlike : Nat) : Fd := ⟨6, 6, [.ite (.cmp .eq (.var 4) (.str "gate")) [.ret (.and (.cmp .isin (.var 5) (.var 3)) (.call i_is_unlike [.var 1, .var 2, .var 5] [true, true, true] [.e 0, .e 1, .e 2]))] [], .ret (.and (.cmp .eq (.var 4) (.str "walker")) (.call i_is_cut [.var 0, .var 1, .var 2, .var 3, .var 5] [true, true, true, true, false] [.e 0, .e 1, .e 2, .e 3, .e 4]))]⟩
def C_is_closed (i_hosts : Nat) (i_is_near : Nat) (i_table : Nat) : Fd := ⟨3, 5, [.asg 3 (.call i_table [.var 0, .idx (.var 1) (.int 0), .comp (.var 4) (.name 4) (.rng [.bi1 .len (.idx (.var 0) (.int 1))]) (some (.cmp .notin (.var 4) (.var 2)))] [true, true, false] [.e 0, .e 1, .e 2]), .ret (.cmp .eq (.comp (.int 1) (.name 4) (.seq (.var 2)) (some (.call i_is_near [.var 0, .var 3, .idx (.var 1) (.int 0), .var 4, .call i_hosts [.var 1, .var 4] [true, true] [.e 0, .e 1]] [true, true, true, false, false] [.e 0, .e 1, .e 2, .e 3, .e 4]))) (.lst []))]⟩
def C_is_index : Fd := ⟨2, 2, [.ret (.and (.isa (.var 0) [.int] false) (.and (.not (.isa (.var 0) [.bool] false)) (.chain .le .lt (.int 0) (.var 0) (.var 1))))]⟩
def C_due (i_is_closed : Nat) (i_is_index : Nat) (i_is_reason : Nat) : Fd := ⟨4, 6, [.ite (.or (.not (.isa (.var 3) [.tuple] false)) (.or (.cmp .ne (.bi1 .len (.var 3)) (.int 3)) (.cmp .ne (.bi1 .repr (.idx (.var 3) (.int 0))) (.bi1 .repr (.str "barrier"))))) [.ret (.bl false)] [], .ite (.or (.not (.isa (.idx (.var 3) (.int 1)) [.tuple] false)) (.cmp .ne (.comp (.var 5) (.name 5) (.seq (.idx (.var 3) (.int 1))) (some (.not (.call i_is_index [.var 5, .bi1 .len (.idx (.var 0) (.int 1))] [true, true] [.e 0, .e 1])))) (.lst []))) [.ret (.bl false)] [], .ite (.or (.cmp .ne (.bi1 .list (.idx (.var 3) (.int 1))) (.sset (.idx (.var 3) (.int 1)))) (.not (.call i_is_closed [.var 0, .var 2, .idx (.var 3) (.int 1)] [true, true, false] [.e 0, .e 1, .e 2]))) [.ret (.bl false)] [], .ite (.or (.not (.isa (.idx (.var 3) (.int 2)) [.tuple] false)) (.or (.cmp .ne (.bi1 .len (.idx (.var 3) (.int 2))) (.int 2)) (.not (.isa (.idx (.idx (.var 3) (.int 2)) (.int 0)) [.str] false)))) [.ret (.bl false)] [], .asg 4 (.ite (.cmp .eq (.idx (.idx (.var 3) (.int 2)) (.int 0)) (.str "walker")) (.bi1 .len (.idx (.var 2) (.int 0))) (.bi1 .len (.idx (.var 0) (.int 1)))), .ite (.not (.call i_is_index [.idx (.idx (.var 3) (.int 2)) (.int 1), .var 4] [true, true] [.e 0, .e 1])) [.ret (.bl false)] [], .ret (.call i_is_reason [.var 0, .var 1, .var 2, .idx (.var 3) (.int 1), .idx (.idx (.var 3) (.int 2)) (.int 0), .idx (.idx (.var 3) (.int 2)) (.int 1)] [true, true, true, true, true, false] [.e 0, .e 1, .e 2, .e 3, .e 4, .e 5])]⟩
theorem unlike_specC {k f : Nat} (hf : prog[f]? = some C_is_unlike) {hs ks : List Int} {ls os : List Ow} {g : Nat} (h1 : g < ls.length) (h2 : g < os.length) :
    Ret (run prog fuel (k + 1) f ([hopeD hs ls, hopeD ks os, .int g].map .sh)) (fun m fin => m = .sh (.bool (unlT ls os g)) ∧ fin = [hopeD hs ls, hopeD ks os, .int g].map .sh) := by
  refine ret_run (fd := C_is_unlike) hf rfl (Nat.le_of_ble_eq_true rfl) rfl ?_
  have ea : opCmp .ne (owD (owAt os g)) (.str (Str.ofString "any")) = some (!decide (owAt os g = some none)) := ne_ow (owAt os g) (some none)
  simp [C_is_unlike, at_ow h1, at_ow h2, ea]
  refine wpI_of (fun h => ?_) fun h => ?_
  · simp [ne_ow, unlT, at_ow h1, at_ow h2]
    simp at h
    simp [h]
  · simp [unlT]
    simp at h
    simp [h]
theorem cut_eq {gs : List Gt} {bars : List D} {r : Nat} {hs ks : List Int} (hg : ∀ g ∈ gs, GateA r g) (h1 : ∀ a ∈ hs, 0 ≤ a ∧ a < r) (h2 : ∀ a ∈ ks, 0 ≤ a ∧ a < r) {lot : List Nat} {w : Nat} (w1 : w < hs.length) (w2 : w < ks.length) : cutT mnT gs bars r hs ks lot w = cutT mgT gs bars r hs ks lot w := by
  have e1 : hs[w]? = some (roomAt hs w) := by simp [roomAt, w1]
  have e2 : ks[w]? = some (roomAt ks w) := by simp [roomAt, w2]
  obtain ⟨p0, p1⟩ := h1 _ (List.mem_of_getElem? e1)
  obtain ⟨q0, q1⟩ := h2 _ (List.mem_of_getElem? e2)
  have := (same_lab (r := r) hg (bars := bars) (lot := outT gs.length lot) (w := w)).at p0 p1 q0 q1
  unfold cutT
  simp only [bne, this]
theorem out_comp {cx : Cxt} {ρ1 : Env} {Q : R → Env → Prop} {n v s : Nat} {js : List Nat} {m : M} (hm : ρ1.get s = some m) (hm' : m = .sh (.tuple (js.map natD)) ∨ m = .sh (.list (js.map natD)) ∨ ∃ p, m = .ol p (js.map natD)) (hk : keepOk [v] ρ1 = true) (hn : n ≤ 1000) (hv : v ≠ s) (hfv : free (ρ1.set v none) v = true)
    (q : Q (.new ((outT n js).map natD)) ρ1) : wpC cx (.var v) (.name v) (some (.cmp .notin (.var v) (.var s))) (rngD 0 n 1) ρ1 Q := by
  have hvl : v < ρ1.length := by
    have := List.all_eq_true.mp hk v (by simp)
    simp only [Bool.and_eq_true, decide_eq_true_eq] at this
    exact this.1
  rw [rng_nat]
  refine wp_pure (fun d => if (fun g => !decide (g ∈ js)) (nat_of d) then some d else none) hk (by rw [List.length_map, List.length_range]; exact Nat.le_trans hn (by decide)) (fun x hx => ?_) ?_
  · obtain ⟨g, hg, rfl⟩ := List.mem_map.mp hx
    have e1 := notin_nat g js
    have e2 := notin_natL g js
    have gv : Env.get ((ρ1.set v none).set v (some (.sh (natD g)))) v = some (.sh (natD g)) := get_set_self (by rw [List.length_set]; exact hvl)
    have gs : Env.get ((ρ1.set v none).set v (some (.sh (natD g)))) s = some m := by rw [get_set_ne hv, get_set_ne hv]; exact hm
    simp only [Tg.vars, wipeE, put_name, hfv, gd_true, wpO_some, q_cond1]
    simp only [t_cmp, s_cmp, s_var, gv, wpV_sh, gs]
    have wp : ((ρ1.set v none).set v (some (M.sh (natD g)))).set v none = ρ1.set v none := by rw [List.set_set, List.set_set]
    have ev : evE cx (.var v) ((ρ1.set v none).set v (some (.sh (natD g)))) = .ok (.val (natD g)) ((ρ1.set v none).set v (some (.sh (natD g)))) := by
      simp only [evE, gv]
    rcases hm' with rfl | rfl | ⟨p, rfl⟩
    · simp only [wpV_sh, cont_val, Option.bind_some]
      simp only [natD] at e1 ⊢
      rw [e1]
      simp [gs]
      by_cases h : g ∈ js
      · simp [h, nat_of]
      · simp [h, nat_of, gv]
        simp [natD] at gv wp
        simp [gv, wp]
    · simp only [wpV_sh, cont_val, Option.bind_some]
      simp only [natD] at e2 ⊢
      rw [e2]
      simp [gs]
      by_cases h : g ∈ js
      · simp [h, nat_of]
      · simp [h, nat_of, gv]
        simp [natD] at gv wp
        simp [gv, wp]
    · simp only [wpV_ol, cont_val, Option.bind_some, cont_own, gs, mcont_ol]
      simp only [natD] at e2 ⊢
      rw [e2]
      simp [gs]
      by_cases h : g ∈ js
      · simp [h, nat_of]
      · simp [h, nat_of, gv]
        simp [natD] at gv wp
        simp [gv, wp]
  · rw [filter_fm (fun g => !decide (g ∈ js))]
    exact q
theorem cut_specC {k f ip : Nat} (hf : prog[f]? = some (C_is_cut ip)) (hp : prog[ip]? = some C_parts) {gs : List Gt} {bars : List D} {r : Nat} {hs ks : List Int} (S : Scene gs bars r ks) (hh : ∀ a ∈ hs, 0 ≤ a ∧ a < r) (hl : hs.length = ks.length) {ls os : List Ow} {lot : List Nat} {w : Nat} (hw : w < ks.length) {m3 : M} (h3 : m3 = .sh (.tuple (lot.map natD)) ∨ m3 = .sh (.list (lot.map natD)) ∨ m3 = .ol true (lot.map natD)) :
    Ret (run prog fuel (k + 2) f [.sh (webD r gs bars), .sh (hopeD hs ls), .sh (hopeD ks os), m3, .sh (.int w)]) (fun m fin => m = .sh (.bool (cutT mgT gs bars r hs ks lot w)) ∧ fin = [.sh (webD r gs bars), .sh (hopeD hs ls), .sh (hopeD ks os), m3, .sh (.int w)]) := by
  have w1 : w < hs.length := by omega
  have e1 : hs[w]? = some (roomAt hs w) := by simp [roomAt, w1]
  have e2 : ks[w]? = some (roomAt ks w) := by simp [roomAt, hw]
  obtain ⟨p0, p1⟩ := hh _ (List.mem_of_getElem? e1)
  obtain ⟨q0, q1⟩ := S.hh _ (List.mem_of_getElem? e2)
  have ll := labW_len' r gs bars (outT gs.length lot) w
  have gl := S.gl
  rw [← cut_eq S.hg hh S.hh w1 hw]
  refine ret_run (fd := C_is_cut ip) hf rfl (Nat.le_of_ble_eq_true rfl) (by rcases h3 with rfl | rfl | rfl <;> rfl) ?_
  simp [C_is_cut]
  refine ⟨small_of (by omega) (by omega), ?_⟩
  refine out_comp (m := m3) (js := lot) (by simp) (by rcases h3 with rfl | rfl | rfl; exact .inl rfl; exact .inr (.inl rfl); exact .inr (.inr ⟨_, rfl⟩)) (by rcases h3 with rfl | rfl | rfl <;> rfl) gl (by decide) (by simp) ?_
  simp
  refine call_same [.sh (webD r gs bars), .sh (.int w), .sh (.list ((outT gs.length lot).map natD))] (by simp [argsOf, R.arg]) (by simp [ownsOf]) (by simp [srcOk]) (parts_specC (k := k) hp S outT_lt w) fun m e => ?_
  subst e
  rcases h3 with rfl | rfl | rfl
  all_goals (
    simp [get_room e1, get_room e2, at_row (row := labW mnT gs bars r (outT gs.length lot) w) p0 (by rw [ll]; exact p1), at_row (row := labW mnT gs bars r (outT gs.length lot) w) q0 (by rw [ll]; exact q1)]
    simp only [cutT, bne, Bool.not_not]
    exact Bool.beq_eq_decide_eq _ _ |>.symm)
end MI
namespace MI
open PySem
variable {prog : List Fd} {fuel : Nat}
theorem ints_eqv : ∀ xs ys : List Int, PyData.eqvAll (xs.map PyData.int) (ys.map PyData.int) = decide (xs = ys)
  | [], [] => by simp [PyData.eqvAll]
  | [], y :: ys => by simp [PyData.eqvAll]
  | x :: xs, [] => by simp [PyData.eqvAll]
  | x :: xs, y :: ys => by
    have ih := ints_eqv xs ys
    simp only [List.map_cons, PyData.eqvAll, PyData.eqv, ih]
    by_cases h : x = y
    · subst h
      simp
    · simp [h]
theorem ints_ok (xs : List Int) : okEq (.list (xs.map PyData.int)) = true := by
  have h := ints_plain' xs
  unfold okEq
  simp [PyData.plain, PyData.depth, h.1, h.2]
theorem eq_intsL (xs ys : List Int) : opCmp .eq (.list (xs.map PyData.int)) (.list (ys.map PyData.int)) = some (decide (xs = ys)) := by
  show opEq _ _ = _
  unfold opEq
  by_cases hl : xs.length = ys.length
  · rw [if_neg (by simp [lensDiffer, hl]), ints_ok, ints_ok]
    simp only [PyData.eqv, ints_eqv]
    rfl
  · rw [if_pos (by simp [lensDiffer, hl])]
    have : ¬ xs = ys := fun e => hl (by rw [e])
    simp [this]
theorem ne_intsL (xs ys : List Int) : opCmp .ne (.list (xs.map PyData.int)) (.list (ys.map PyData.int)) = some (!decide (xs = ys)) := by
  show (opCmp .eq _ _).map not = _
  rw [eq_intsL]
  rfl
theorem sset_nats {js : List Nat} (h : js.length < 64) : ssetD (.tuple (js.map natD)) = some (.new ((ssetI (nats js)).map .int)) := by
  rw [← nats_map]
  have : (nats js).length < 64 := by simpa [nats] using h
  cases js with
  | nil => rfl
  | cons j js =>
    have e : pairsOf ((nats (j :: js)).map PyData.int) = none := rfl
    simp only [ssetD, ssetL, e, ints_map, Option.bind_some, intsR]
    rw [decide_eq_true this]
    rfl
theorem index_specC {k f : Nat} (hf : prog[f]? = some C_is_index) (d : D) (n : Nat) : Ret (run prog fuel (k + 1) f ([d, .int n].map .sh)) (fun m fin => m = .sh (.bool (isIdx n d)) ∧ fin = [d, .int n].map .sh) := by
  refine ret_run (fd := C_is_index) hf rfl (Nat.le_of_ble_eq_true rfl) rfl ?_
  cases d <;> simp [C_is_index, isTy, isIdx]
  refine wpI_of (fun h => ?_) fun h => ?_
  · simp at h
    simp [h]
  · simp at h
    intro h1
    omega
def closL (gs : List Gt) (bars : List D) (r : Nat) (ks : List Int) (os : List Ow) (lot : List Nat) : Bool := !(lot.any fun g => nearL (labW mnT gs bars r (outT gs.length lot)) bars ks (gAt gs g) g (hostL ks.length (owAt os g)))
theorem clos_eq {gs : List Gt} {bars : List D} {r : Nat} {ks : List Int} {os : List Ow} (S : Scene gs bars r ks) (HP : Hope ks.length gs.length os) {lot : List Nat} (hl : ∀ g ∈ lot, g < gs.length) : closL gs bars r ks os lot = closedT gs bars r ks (fun g => whT bars ks.length g (owAt os g)) lot := by
  unfold closL closedT
  congr 1
  rw [Bool.eq_iff_iff]
  simp only [List.any_eq_true]
  have one : ∀ g, g < gs.length → nearL (labW mnT gs bars r (outT gs.length lot)) bars ks (gAt gs g) g (hostL ks.length (owAt os g)) = nearT' (labW mgT gs bars r (outT gs.length lot)) ks (gAt gs g) (whT bars ks.length g (owAt os g)) := by
    intro g hg
    obtain ⟨g1, g2, g3, g4, _⟩ := S.hg _ (List.mem_of_getElem? (gAt_get hg))
    unfold nearL nearT'
    rw [Bool.eq_iff_iff]
    simp only [List.any_eq_true, Bool.and_eq_true]
    have near : ∀ w ∈ hostL ks.length (owAt os g), nearR (labW mnT gs bars r (outT gs.length lot) w) (ks[w]?.getD 0) (gAt gs g).1 (gAt gs g).2.1 = nearR (labW mgT gs bars r (outT gs.length lot) w) (ks[w]?.getD 0) (gAt gs g).1 (gAt gs g).2.1 := by
      intro w hw
      have lw := HP.at hg w hw
      have e2 : ks[w]? = some (roomAt ks w) := by simp [roomAt, lw]
      obtain ⟨q0, q1⟩ := S.hh _ (List.mem_of_getElem? e2)
      exact ((same_lab (r := r) S.hg (bars := bars) (lot := outT gs.length lot) (w := w)).near (p := roomAt ks w) q0 q1 g1 g2 g3 g4).symm
    constructor
    · rintro ⟨w, hw, h1, h2⟩
      exact ⟨w, whT_mem.mpr ⟨hw, h1⟩, by rw [near w hw] at h2; exact h2⟩
    · rintro ⟨w, hw, h2⟩
      obtain ⟨h3, h4⟩ := whT_mem.mp hw
      exact ⟨w, h3, h4, by rw [near w h3]; exact h2⟩
  constructor
  · rintro ⟨g, hg, h⟩
    exact ⟨g, hg, by rw [← one g (hl g hg)]; exact h⟩
  · rintro ⟨g, hg, h⟩
    exact ⟨g, hg, by rw [one g (hl g hg)]; exact h⟩
theorem filter_any (p : Nat → Bool) (d0 : D) : ∀ xs : List Nat, ((xs.map natD).filterMap (fun d => if p (nat_of d) then some d0 else none)).isEmpty = !(xs.any p)
  | [] => rfl
  | x :: xs => by
    rw [List.map_cons, List.filterMap_cons, List.any_cons, nat_of_nat]
    cases h : p x
    · simpa using filter_any p d0 xs
    · simp
theorem closed_specC {k f ih inr it ip : Nat} (hf : prog[f]? = some (C_is_closed ih inr it)) (hh : prog[ih]? = some C_hosts) (hn : prog[inr]? = some C_is_near) (ht : prog[it]? = some (C_table ip)) (hp : prog[ip]? = some C_parts) {gs : List Gt} {bars : List D} {r : Nat} {ks : List Int} {os : List Ow} (S : Scene gs bars r ks) (HP : Hope ks.length gs.length os) {lot : List Nat} (hl : ∀ g ∈ lot, g < gs.length) (ll : lot.length ≤ 1000) :
    Ret (run prog fuel (k + 3) f ([webD r gs bars, hopeD ks os, .tuple (lot.map natD)].map .sh)) (fun m fin => m = .sh (.bool (closL gs bars r ks os lot)) ∧ fin = [webD r gs bars, hopeD ks os, .tuple (lot.map natD)].map .sh) := by
  have gl := S.gl
  have wl := S.wl
  refine ret_run (fd := C_is_closed ih inr it) hf rfl (Nat.le_of_ble_eq_true rfl) rfl ?_
  simp [C_is_closed]
  refine ⟨small_of (by omega) (by omega), ?_⟩
  refine out_comp (m := .sh (.tuple (lot.map natD))) (js := lot) (by simp) (.inl rfl) rfl gl (by decide) (by simp) ?_
  simp
  refine call_ret (ds := [webD r gs bars, .tuple (ks.map .int), .list ((outT gs.length lot).map natD)]) rfl (by simp) (table_specC (k := k) ht hp S outT_lt) fun m e => ?_
  subst e
  simp
  refine wp_pure (fun d => if (fun g => nearL (labW mnT gs bars r (outT gs.length lot)) bars ks (gAt gs g) g (hostL ks.length (owAt os g))) (nat_of d) then some (.int 1) else none) rfl (by rw [List.length_map]; exact Nat.le_trans ll (by decide)) (fun x hx => ?_) ?_
  · obtain ⟨g, hg, rfl⟩ := List.mem_map.mp hx
    have lg := hl g hg
    simp [wipeE, Tg.vars]
    refine call_ret (ds := [hopeD ks os, .int g]) rfl (by simp) (hosts_specC (k := k + 1) hh wl (by rw [HP.ln]; exact lg)) fun m e => ?_
    subst e
    simp [natD]
    refine call_own5 rfl rfl (near_specC (k := k + 1) hn S (F := labW mnT gs bars r (outT gs.length lot)) (fun w => labW_len' _ _ _ _ _) (gAt_get lg) (HP.at lg) (.inr rfl)) ?_
    simp [truth]
    refine wpI_of (fun h => ?_) fun h => ?_
    · simp [h, nat_of, wipeE]
    · simp [h, nat_of, wipeE]
  · have e := filter_any (fun g => nearL (labW mnT gs bars r (outT gs.length lot)) bars ks (gAt gs g) g (hostL ks.length (owAt os g))) (.int 1) lot
    rw [List.filterMap_map] at e
    simp [e, closL]
theorem reason_specC {k f ic iu ip : Nat} (hf : prog[f]? = some (C_is_reason ic iu)) (hc : prog[ic]? = some (C_is_cut ip)) (hp : prog[ip]? = some C_parts) (hu : prog[iu]? = some C_is_unlike) {gs : List Gt} {bars : List D} {r : Nat} {hs ks : List Int} (S : Scene gs bars r ks) (hh : ∀ a ∈ hs, 0 ≤ a ∧ a < r) (hl : hs.length = ks.length) {ls os : List Ow} (l1 : ls.length = gs.length) (l2 : os.length = gs.length) {lot : List Nat} {w : Str} {j : Nat} (h1 : w = Str.ofString "walker" → j < ks.length) (h2 : ¬ w = Str.ofString "walker" → j < gs.length) :
    Ret (run prog fuel (k + 3) f ([webD r gs bars, hopeD hs ls, hopeD ks os, .tuple (lot.map natD), .str w, .int j].map .sh)) (fun m fin => m = .sh (.bool (if w == Str.ofString "gate" then decide (j ∈ lot) && unlT ls os j else w == Str.ofString "walker" && cutT mgT gs bars r hs ks lot j)) ∧ fin = [webD r gs bars, hopeD hs ls, hopeD ks os, .tuple (lot.map natD), .str w, .int j].map .sh) := by
  refine ret_run (fd := C_is_reason ic iu) hf rfl (Nat.le_of_ble_eq_true rfl) rfl ?_
  simp [C_is_reason, eq_ss]
  refine wpI_of (fun hg => ?_) fun hg => ?_
  · have hg' : w = Str.ofString "gate" := by simpa using hg
    subst hg'
    have lj := h2 (by decide +kernel)
    simp [isin_natP]
    refine wpI_of (fun hm => ?_) fun hm => ?_
    · refine call_sh (ds := [hopeD hs ls, hopeD ks os, .int j]) rfl (by simp) (unlike_specC (k := k + 1) hu (by omega) (by omega)) ?_
      simp at hm
      simp [hm]
    · simp at hm
      simp [hm]
  · refine wpI_of (fun hw => ?_) fun hw => ?_
    · have hw' : w = Str.ofString "walker" := by simpa using hw
      refine call_same [.sh (webD r gs bars), .sh (hopeD hs ls), .sh (hopeD ks os), .sh (.tuple (lot.map natD)), .sh (.int j)] (by simp [argsOf, R.arg]) (by simp [ownsOf]) (by simp [srcOk]) (cut_specC (k := k) hc hp S hh hl (h1 hw') (.inl rfl)) fun m e => ?_
      subst e
      have hg1 : ¬ w = Str.ofString "gate" := by simpa using hg
      rw [if_neg hg1, hw]
      simp
    · have hg1 : ¬ w = Str.ofString "gate" := by simpa using hg
      have hw1 : ¬ w = Str.ofString "walker" := by simpa using hw
      rw [if_neg hg1]
      exact fun h => absurd h hw1
end MI
namespace MI
open PySem
variable {prog : List Fd} {fuel : Nat}
abbrev wBar : D := .str (Str.ofString "barrier")
abbrev wBig : D := .str (Str.ofString "Barrier")
/-- a thing that is asked -/
structure Thg (v : D) : Prop where
  an : An false 300 6 v
  hd : ∀ w l b, v = .tuple [w, l, b] → w = wBar ∨ w = wBig ∨ w = .none
  ln : ∀ w l b, v = .tuple [w, .tuple l, b] → l.length ≤ 60
theorem An_wBar : An true 1 0 wBar := ⟨by decide +kernel, by decide +kernel, by decide +kernel, by decide +kernel⟩
theorem An_wBig : An true 1 0 wBig := ⟨by decide +kernel, by decide +kernel, by decide +kernel, by decide +kernel⟩
theorem repr_w {w : D} (h : w = wBar ∨ w = wBig ∨ w = .none) : reprD w = some (.val (.str w.shown)) ∧ (w.shown != wBar.shown) = !strIs "barrier" w := by
  rcases h with rfl | rfl | rfl
  · exact ⟨repr_one An_wBar (by decide) (by decide), by decide +kernel⟩
  · exact ⟨repr_one An_wBig (by decide) (by decide), by decide +kernel⟩
  · exact ⟨repr_one (An.non true) (by decide) (by decide), by decide +kernel⟩
theorem filter_idx (n : Nat) : ∀ xs : List D, (xs.filterMap fun d => if isIdx n d then none else some d).isEmpty = xs.all (isIdx n)
  | [] => rfl
  | x :: xs => by
    rw [List.filterMap_cons, List.all_cons]
    cases h : isIdx n x
    · simp
    · simpa using filter_idx n xs
theorem tup_of (v : D) : (isTy .tuple v = false ∧ ∀ l, v ≠ .tuple l) ∨ ∃ ys, v = .tuple ys := by
  cases v with
  | tuple xs => exact .inr ⟨xs, rfl⟩
  | _ => exact .inl ⟨rfl, fun _ e => by cases e⟩
theorem three_any (v : D) : (isTy .tuple v = false ∧ ∀ w l b, v ≠ .tuple [w, l, b]) ∨ (∃ xs, v = .tuple xs ∧ ¬ ((xs.length : Int) = 3) ∧ ∀ w l b, PyData.tuple xs ≠ .tuple [w, l, b]) ∨ ∃ w l b, v = .tuple [w, l, b] := by
  cases v with
  | tuple xs =>
    by_cases h : xs.length = 3
    · match xs, h with
      | [w, l, b], _ => exact .inr (.inr ⟨w, l, b, rfl⟩)
    · exact .inr (.inl ⟨xs, rfl, by omega, fun w l b e => h (by cases e; rfl)⟩)
  | _ => exact .inl ⟨rfl, fun _ _ _ e => by cases e⟩
structure DueIx where
  (clo idx reas cut unl parts hosts near table : Nat)
structure HasDue (prog : List Fd) (id : Nat) (D : DueIx) : Prop where
  due : prog[id]? = some (C_due D.clo D.idx D.reas)
  clo : prog[D.clo]? = some (C_is_closed D.hosts D.near D.table)
  idx : prog[D.idx]? = some C_is_index
  reas : prog[D.reas]? = some (C_is_reason D.cut D.unl)
  cut : prog[D.cut]? = some (C_is_cut D.parts)
  unl : prog[D.unl]? = some C_is_unlike
  parts : prog[D.parts]? = some C_parts
  hosts : prog[D.hosts]? = some C_hosts
  near : prog[D.near]? = some C_is_near
  table : prog[D.table]? = some (C_table D.parts)
theorem due_specC {k f : Nat} {E : DueIx} (B : HasDue prog f E) {gs : List Gt} {bars : List D} {r : Nat} {hs ks : List Int} (S : Scene gs bars r ks) (hh : ∀ a ∈ hs, 0 ≤ a ∧ a < r) (hl : hs.length = ks.length) {ls os : List Ow} (l1 : ls.length = gs.length) (HP : Hope ks.length gs.length os) {v : D} (T : Thg v) :
    Ret (run prog fuel (k + 4) f ([webD r gs bars, hopeD hs ls, hopeD ks os, v].map .sh)) (fun m fin => m = .sh (.bool (barT gs bars r hs ks ls os v)) ∧ fin = [webD r gs bars, hopeD hs ls, hopeD ks os, v].map .sh) := by
  refine ret_run (fd := C_due E.clo E.idx E.reas) B.due rfl (Nat.le_of_ble_eq_true rfl) rfl ?_
  rcases three_any v with ⟨hn, hw⟩ | ⟨xs, rfl, hn, hw⟩ | ⟨w, lot, rv, rfl⟩
  · have e : barT gs bars r hs ks ls os v = false := bar_no fun w l b => hw _ _ b
    simp [C_due, hn, e]
  · have e : barT gs bars r hs ks ls os (.tuple xs) = false := bar_no fun w l b => hw _ _ b
    simp [C_due, isTy_tt, hn, e]
  · obtain ⟨e1, e2⟩ := repr_w (T.hd w lot rv rfl)
    have e3 : reprD wBar = some (.val (.str wBar.shown)) := (repr_w (.inl rfl)).1
    have e3' : reprD (.str (Str.ofString "barrier")) = some (.val (.str wBar.shown)) := e3
    generalize wBar.shown = sb at e2 e3 e3'
    generalize w.shown = sw at e1 e2
    simp [C_due, isTy_tt, e1, e3', ne_ss']
    simp only [e2]
    refine wpI_of (fun hb => ?_) fun hb => ?_
    · have e : barT gs bars r hs ks ls os (.tuple [w, lot, rv]) = false := by
        cases lot <;> first | rfl | skip
        simp only [barT]
        simp at hb
        rw [hb, Bool.false_and]
      simp [e]
    · simp at hb
      rcases tup_of lot with ⟨hn, hno⟩ | ⟨ys, rfl⟩
      · have e : barT gs bars r hs ks ls os (.tuple [w, lot, rv]) = false := bar_no fun w' l b e => hno l (by cases e; rfl)
        simp [hn, e]
      · skip
        have yl := T.ln w ys rv rfl
        have noLot : ys.all (isIdx gs.length) = false → barT gs bars r hs ks ls os (.tuple [w, .tuple ys, rv]) = false := fun z => by
          simp only [barT, lotT, z, Bool.false_and, Bool.and_false]
        simp [isTy_tt]
        refine wp_pure (fun d => if isIdx gs.length d then none else some d) rfl (Nat.le_trans yl (by decide)) (fun x hx => ?_) ?_
        · simp [wipeE, Tg.vars]
          refine call_sh (ds := [x, .int gs.length]) rfl (by simp) (index_specC (k := k + 2) B.idx x gs.length) ?_
          simp [truth]
          refine wpI_of (fun h => ?_) fun h => ?_
          · simp at h
            simp [h, wipeE]
          · simp at h
            simp [h, wipeE]
        · have fe := filter_idx gs.length ys
          generalize (ys.filterMap fun d => if isIdx gs.length d then none else some d) = bad at fe
          simp [fe]
          refine wpI_of (fun hx => ?_) fun hx => ?_
          · have hx' : ys.all (isIdx gs.length) = false := by
              rw [Bool.eq_false_iff]
              intro z
              simp [z] at hx
            simp [noLot hx']
          · have hx' : ys.all (isIdx gs.length) = true := by
              simpa using hx
            obtain ⟨js, rfl, hj⟩ := gates_nat hx'
            have jl : js.length ≤ 60 := by rwa [List.length_map] at yl
            have en := nat_of_map js
            have lt : lotT gs.length (.tuple (js.map natD)) = ascT js := by
              simp only [lotT, hx', en, Bool.true_and]
            have el : opB1 .list (.tuple (js.map natD)) = some (.new (js.map natD)) := rfl
            simp [el, sset_nats (js := js) (by omega)]
            rw [← nats_map, ne_intsL, nats_map, asc_sset]
            simp
            refine wpI_of (fun ha => ?_) fun ha => ?_
            · simp at ha
              simp [barT, lt, ha]
            · simp at ha
              refine call_sh (ds := [webD r gs bars, hopeD ks os, .tuple (js.map natD)]) rfl (by simp) (closed_specC (k := k) B.clo B.hosts B.near B.table B.parts S HP hj (by omega)) ?_
              rw [clos_eq S HP hj]
              simp [truth]
              refine wpI_of (fun hc => ?_) fun hc => ?_
              · simp at hc
                simp [barT, en, hc]
              · simp at hc
                have eb : barT gs bars r hs ks ls os (.tuple [w, .tuple (js.map natD), rv]) = reasT gs bars r hs ks ls os js rv := by
                  simp only [barT, hb, lt, ha, en, hc, Bool.true_and]
                rw [eb]
                rcases two_of rv with ⟨hn, hv⟩ | ⟨zs, rfl, hn, hv⟩ | ⟨u, ix, rfl, hn, hv⟩ | ⟨u, ix, rfl⟩
                · have e : reasT gs bars r hs ks ls os js rv = false := reas_no hv
                  simp [hn, e]
                · have e : reasT gs bars r hs ks ls os js (.tuple zs) = false := reas_no hv
                  simp [isTy_tt, hn, e]
                · have e : reasT gs bars r hs ks ls os js (.tuple [u, ix]) = false := reas_no hv
                  simp [isTy_tt, hn, e]
                · simp [isTy_tt, isTy_ss, eq_ss]
                  by_cases hu : u = Str.ofString "walker"
                  · subst hu
                    simp
                    refine call_sh (ds := [ix, .int ks.length]) rfl (by simp) (index_specC (k := k + 2) B.idx ix ks.length) ?_
                    simp [truth]
                    refine wpI_of (fun hx => ?_) fun hx => ?_
                    · simp at hx
                      have ng : (Str.ofString "walker" == Str.ofString "gate") = false := by decide +kernel
                      simp [reasT, hx, ng]
                    · simp at hx
                      obtain ⟨j, rfl, hj2⟩ := idx_nat hx
                      refine call_same ([webD r gs bars, hopeD hs ls, hopeD ks os, .tuple (js.map natD), .str (Str.ofString "walker"), .int j].map .sh) (by simp [argsOf, R.arg]) (by simp [ownsOf]) (by simp [srcOk]) (reason_specC (k := k) B.reas B.cut B.parts B.unl S hh hl l1 HP.ln (fun _ => hj2) (fun h => absurd rfl h)) fun m e => ?_
                      subst e
                      have ng : (Str.ofString "walker" == Str.ofString "gate") = false := by decide +kernel
                      simp [reasT, hx, ng, nat_of_int]
                  · have hu' : (u == Str.ofString "walker") = false := by simpa using hu
                    simp [hu']
                    refine call_sh (ds := [ix, .int gs.length]) rfl (by simp) (index_specC (k := k + 2) B.idx ix gs.length) ?_
                    simp [truth]
                    refine wpI_of (fun hx => ?_) fun hx => ?_
                    · simp at hx
                      simp [reasT, hx, hu]
                    · simp at hx
                      obtain ⟨j, rfl, hj2⟩ := idx_nat hx
                      refine call_same ([webD r gs bars, hopeD hs ls, hopeD ks os, .tuple (js.map natD), .str u, .int j].map .sh) (by simp [argsOf, R.arg]) (by simp [ownsOf]) (by simp [srcOk]) (reason_specC (k := k) B.reas B.cut B.parts B.unl S hh hl l1 HP.ln (fun h => absurd h hu) (fun _ => hj2)) fun m e => ?_
                      subst e
                      simp [reasT, hx, nat_of_int, hu']
end MI
namespace MI
open PySem
variable {prog : List Fd} {fuel : Nat}
def C_near_hope (i_draw : Nat) (i_hope : Nat) (i_opened : Nat) : Fd := ⟨3, 7, [.par 4 5 (.bi1 .list (.idx (.var 2) (.int 0))) (.bi1 .list (.idx (.var 2) (.int 1))), .asg 3 (.call i_draw [.var 0, .int 4] [true, true] [.e 0, .e 1]), .ite (.and (.cmp .eq (.var 3) (.int 0)) (.cmp .ne (.var 5) (.lst []))) [.setI 5 (.call i_draw [.var 0, .bi1 .len (.var 5)] [true, true] [.e 0, .e 1]) (.idx (.bin .add (.lst [.non]) (.lit (.rng [.bi1 .len (.var 4)]) false)) (.call i_draw [.var 0, .bin .add (.bi1 .len (.var 4)) (.int 1)] [true, true] [.e 0, .e 1]))] [], .ite (.cmp .eq (.var 3) (.int 1)) [.asg 4 (.comp (.call i_draw [.var 0, .idx (.var 1) (.int 0)] [true, true] [.e 0, .e 1]) (.name 6) (.seq (.var 4)) none)] [], .ite (.cmp .eq (.var 3) (.int 2)) [.asg 5 (.bi1 .list (.idx (.call i_opened [.var 0, .var 2] [true, true] [.e 0, .e 1]) (.int 1))), .setI 4 (.int 0) (.call i_draw [.var 0, .idx (.var 1) (.int 0)] [true, true] [.e 0, .e 1])] [], .ret (.ite (.cmp .eq (.var 3) (.int 3)) (.call i_hope [.var 0, .var 1, .bi1 .len (.var 4)] [true, true, false] [.e 0, .e 1, .e 2]) (.tup [.bi1 .tuple (.var 4), .bi1 .tuple (.var 5)]))]⟩
def C_thing (i_draw : Nat) (i_is_cut : Nat) (i_is_unlike : Nat) (i_loose : Nat) : Fd := ⟨4, 17, [.asg 4 (.call i_loose [.var 1, .var 3, .non] [true, true, true] [.e 0, .e 1, .e 2]), .asg 5 (.comp (.var 15) (.name 15) (.rng [.bi1 .len (.idx (.var 1) (.int 1))]) (some (.cmp .notin (.var 15) (.var 4)))), .asg 6 (.comp (.tup [.str "gate", .var 15]) (.name 15) (.seq (.var 5)) (some (.call i_is_unlike [.var 2, .var 3, .var 15] [true, true, true] [.e 0, .e 1, .e 2]))), .asg 6 (.bin .add (.var 6) (.comp (.tup [.str "walker", .var 16]) (.name 16) (.rng [.bi1 .len (.idx (.var 3) (.int 0))]) (some (.call i_is_cut [.var 1, .var 2, .var 3, .var 5, .var 16] [true, true, true, true, false] [.e 0, .e 1, .e 2, .e 3, .e 4])))), .asg 7 (.idx (.lst [.call i_draw [.var 0, .int 15] [true, true] [.e 0, .e 1], .bl true, .neg (.int 1), .non, .str "0", .lst [.int 0], .dct []]) (.call i_draw [.var 0, .int 7] [true, true] [.e 0, .e 1])), .asg 8 (.bin .add (.bin .mul (.var 6) (.int 3)) (.lst [.tup [.str "gate", .var 7], .tup [.str "walker", .var 7]])), .asg 8 (.bin .add (.var 8) (.lst [.tup [.str "gate", .call i_draw [.var 0, .int 15] [true, true] [.e 0, .e 1]], .tup [.str "walker", .call i_draw [.var 0, .int 6] [true, true] [.e 0, .e 1]]])), .asg 9 (.idx (.var 8) (.call i_draw [.var 0, .bi1 .len (.var 8)] [true, true] [.e 0, .e 1])), .asg 10 (.call i_draw [.var 0, .int 10] [true, true] [.e 0, .e 1]), .asg 11 (.call i_draw [.var 0, .bin .add (.bi1 .len (.var 5)) (.int 1)] [true, true] [.e 0, .e 1]), .ite (.cmp .eq (.var 10) (.int 0)) [.asg 5 (.comp (.var 15) (.name 15) (.seq (.var 5)) (some (.cmp .gt (.call i_draw [.var 0, .int 4] [true, true] [.e 0, .e 1]) (.int 0))))] [], .ite (.cmp .eq (.var 10) (.int 1)) [.asg 12 (.idx (.lst [.call i_draw [.var 0, .int 15] [true, true] [.e 0, .e 1], .bl true, .str "0", .non, .neg (.int 1), .lst [.int 0], .dct [], .tup [.int 0]]) (.call i_draw [.var 0, .int 8] [true, true] [.e 0, .e 1])), .asg 5 (.bin .add (.bin .add (.sl (.var 5) none (some (.var 11))) (.lst [.var 12])) (.sl (.var 5) (some (.var 11)) none))] [], .ite (.cmp .eq (.var 10) (.int 2)) [.asg 5 (.idx (.lst [.rev (.var 5), .bin .add (.var 5) (.sl (.var 5) (some (.neg (.int 1))) none)]) (.call i_draw [.var 0, .int 2] [true, true] [.e 0, .e 1]))] [], .ite (.cmp .eq (.var 10) (.int 3)) [.asg 13 (.bi1 .tuple (.var 5)), .asg 14 (.lst [.tup [.str "barrier", .var 5, .var 9], .tup [.str "barrier", .var 13, .bi1 .list (.var 9)], .lst [.str "barrier", .var 13, .var 9], .tup [.str "barrier", .var 13]]), .asg 14 (.bin .add (.var 14) (.lst [.tup [.str "barrier", .var 13, .var 9, .tup []], .tup [.str "moves", .lst []], .tup [.str "Barrier", .var 13, .var 9], .tup [.non, .var 13, .var 9], .non])), .asg 14 (.bin .add (.var 14) (.lst [.tup [], .str "barrier", .dct [], .tup [.str "barrier", .var 13, .bin .add (.var 9) (.tup [.int 0])], .tup [.str "barrier", .var 13, .non], .int 0, .bl true])), .ret (.idx (.var 14) (.call i_draw [.var 0, .bi1 .len (.var 14)] [true, true] [.e 0, .e 1]))] [], .ret (.tup [.str "barrier", .bi1 .tuple (.var 5), .var 9])]⟩
theorem nhope_specC {k f idr ih io : Nat} (hf : prog[f]? = some (C_near_hope idr ih io)) (hd : prog[idr]? = some B_draw) (hhp : prog[ih]? = some (B_hope idr)) (hop : prog[io]? = some (B_opened idr)) (cells : List Int) {at_ g r : Int} {gates hs ls : List D} {bars : D} {w : Nat} (h3 : 0 ≤ at_) (h4 : at_ + 200 < 1000000) (h5 : 0 ≤ g) (r0 : 1 ≤ r) (r1 : r ≤ 12) (gl : gates.length ≤ 24) (w0 : 1 ≤ w) (w1 : w ≤ 5) (S : StateB r gates.length w (.tuple [.tuple hs, .tuple ls])) :
    Ret (run prog fuel (k + 3) f (.ol true (pen cells at_ g) :: ([.tuple [.int r, .tuple gates, bars], .tuple [.tuple hs, .tuple ls]] : List D).map .sh)) (PenQ cells at_ 80 (fun m => ∃ d, m = .sh d ∧ HopeB r gates.length w d) (([.tuple [.int r, .tuple gates, bars], .tuple [.tuple hs, .tuple ls]] : List D).map .sh)) := by
  obtain ⟨hs', ls', eq, e1, e2, hh, hl⟩ := id S.ex
  cases eq
  have fin : ∀ {xs ys : List D} {a2 g2 : Int}, xs.length = w → ys.length = gates.length → (∀ x ∈ xs, ∃ a : Int, x = .int a ∧ 0 ≤ a ∧ a < r) → (∀ y ∈ ys, OwnerB w y) → at_ ≤ a2 → a2 ≤ at_ + 80 → 0 ≤ g2 →
      PenQ cells at_ 80 (fun m => ∃ d, m = .sh d ∧ HopeB r gates.length w d) [.sh (.tuple [.int r, .tuple gates, bars]), .sh (.tuple [.tuple hs, .tuple ls])] (.sh (.tuple [.tuple xs, .tuple ys])) [.ol true (pen cells a2 g2), .sh (.tuple [.int r, .tuple gates, bars]), .sh (.tuple [.tuple hs, .tuple ls])] := by
    intro xs ys a2 g2 lx ly hx hy b1 b2 b3
    exact penq b1 b2 b3 ⟨_, rfl, xs, ys, rfl, lx, ly, hx, hy⟩
  have lord : ∀ {x : D}, LordB w x → OwnerB w x := fun {x} h => by
    rcases h with h | h
    · exact .inl h
    · exact .inr (.inr h)
  refine ret_run (fd := C_near_hope idr ih io) hf rfl (Nat.le_of_ble_eq_true rfl) rfl ?_
  simp [C_near_hope]
  refine w_drawB hd rfl (by omega) (by omega) (by omega) (by omega) h5 fun pick a2 g2 x1 x2 x3 x4 x5 => ?_
  simp
  have hp : pick = 0 ∨ pick = 1 ∨ pick = 2 ∨ pick = 3 := by omega
  rcases hp with rfl | rfl | rfl | rfl
  · simp
    refine wpI_of (fun hne => ?_) fun _ => ?_
    · have lp : 0 < ls.length := by
        cases ls with
        | nil => cases hne
        | cons a b => simp
      have sm : small62 (hs.length : Int) = true := small_of (by omega) (by omega)
      have lw : hs.length ≤ 16777216 := by omega
      simp [sm, rngD_len, lw]
      refine ⟨by omega, ?_⟩
      refine w_drawB hd rfl (by omega) (by omega) (by omega) (by omega) x5 fun q a3 g3 y1 y2 y3 y4 y5 => ?_
      simp
      refine wpO_at y1 (by simp [rngD_len]; omega) fun x hx => ?_
      have ox : OwnerB w x := by
        rcases List.mem_cons.mp hx with rfl | hx
        · exact .inl rfl
        · rw [e1] at hx
          exact .inr (.inr (rng_mem hx))
      refine w_drawB hd rfl (by omega) (by omega) (by omega) (by omega) y5 fun q2 a4 g4 z1 z2 z3 z4 z5 => ?_
      simp [ix_ok z1 z2]
      exact fin e1 (by rw [List.length_set]; exact e2) hh (set_all (fun y hy => lord (hl y hy)) ox) (by omega) (by omega) z5
    · exact fin e1 e2 hh (fun y hy => lord (hl y hy)) (by omega) (by omega) x5
  · simp
    refine ⟨rfl, ?_⟩
    refine wp_compL (fun j acc ρ => ∃ a6 g6 x6, ρ = [some (.ol true (pen cells a6 g6)), some (.sh (.tuple [.int r, .tuple gates, bars])), some (.sh (.tuple [.tuple hs, .tuple ls])), some (.sh (.int 1)), some (.sh (.list hs)), some (.ol false ls), x6] ∧ a2 ≤ a6 ∧ a6 ≤ a2 + j ∧ 0 ≤ g6 ∧ acc.length = j ∧ ∀ x ∈ acc, ∃ a : Int, x = .int a ∧ 0 ≤ a ∧ a < r)
      ⟨a2, g2, none, rfl, by omega, by omega, x5, rfl, fun _ h => by cases h⟩ ?_ ?_
    · rintro j d acc ρ hd' ⟨a6, g6, x6, rfl, c1, c2, c3, c4, c5⟩
      have hj : j < hs.length := (List.getElem?_eq_some_iff.mp hd').1
      simp [wipeE, Tg.vars]
      refine w_drawB hd rfl (by omega) (by omega) (by omega) (by omega) c3 fun v2 a7 g7 s1 s2 s3 s4 s5 => ?_
      simp
      have l5 : acc.length < 16777216 := by omega
      exact ⟨l5, a7, g7, ⟨_, rfl⟩, by omega, by omega, s5, by simp [c4], app_all (P := fun x => ∃ a : Int, x = .int a ∧ 0 ≤ a ∧ a < r) c5 fun y hy => ⟨v2, List.mem_singleton.mp hy, s1, s2⟩⟩
    · rintro acc ρ ⟨a6, g6, x6, rfl, c1, c2, c3, c4, c5⟩
      simp [backE, Tg.vars]
      exact fin (by omega) e2 c5 (fun y hy => lord (hl y hy)) (by omega) (by omega) c3
  · simp
    refine call_pen (ds := [.tuple [.tuple hs, .tuple ls]]) (n := 26) rfl rfl (by simp) (opened_specB (k := k) (at_ := a2) (g := g2) (r := r) (hs := hs) (ls := ls) (n := gates.length) (w := w) hop hd cells (by omega) (by omega) x5 gl S) fun m a1 g1 ⟨op, e3, HO⟩ u1 u2 u3 => ?_
    subst e3
    obtain ⟨hs2, os, eo, f1, f2, hh2, ho⟩ := id HO.ex
    subst eo
    simp
    refine w_drawB hd rfl (by omega) (by omega) (by omega) (by omega) u3 fun q a3 g3 y1 y2 y3 y4 y5 => ?_
    have hx0 : ixOf hs.length 0 = some 0 := ix_ok (i := 0) (by decide) (by omega)
    simp [hx0]
    exact fin (by rw [List.length_set]; exact e1) f2 (set_all (P := fun x => ∃ a : Int, x = .int a ∧ 0 ≤ a ∧ a < r) hh ⟨q, rfl, y1, y2⟩) ho (by omega) (by omega) y5
  · simp
    rw [e1]
    refine call_pen (ds := [.tuple [.int r, .tuple gates, bars], .int w]) (n := 40) rfl rfl (by simp) (hope_specB (k := k) (at_ := a2) (g := g2) (r := r) (gates := gates) (bars := bars) (w := w) hhp hd cells (by omega) (by omega) x5 r0 (by omega) gl w0 w1) fun m a4 g4 ⟨hope, e4, HP⟩ s1 s2 s3 => ?_
    subst e4
    simp
    exact penq (by omega) (by omega) s3 ⟨_, rfl, HP⟩
end MI
namespace MI
open PySem
variable {prog : List Fd} {fuel : Nat}
theorem An.lstF {p : Bool} {c k : Nat} {xs : List D} (h : Ans p c k xs) : An p (1 + c) (k + 1) (.list xs) := by
  refine ⟨by simp only [gdD]; exact h.gd, by simp only [cnt]; have := h.cn; omega, by simp only [PyData.depth]; have := h.dp; omega, ?_⟩
  have a := h.kd
  cases p
  · simp only [noList] at *; simp_all
  · simp only [PyData.plain] at *; simp_all
theorem An_nat (p : Bool) {j : Nat} (h : j < 1000) : An p 1 0 (natD j) := An.int p (by omega)
theorem ssetI_nats (js : List Nat) : ∃ fs : List Nat, ssetI (nats js) = nats fs := by
  have h : ∀ z ∈ ssetI (nats js), ∃ n : Nat, z = (n : Int) := fun z hz => by
    have := ssetI_mem.mp hz
    obtain ⟨n, _, rfl⟩ := List.mem_map.mp this
    exact ⟨n, rfl⟩
  generalize ssetI (nats js) = l at h
  induction l with
  | nil => exact ⟨[], rfl⟩
  | cons z l ih =>
    obtain ⟨n, rfl⟩ := h _ List.mem_cons_self
    obtain ⟨fs, e⟩ := ih fun y hy => h y (List.mem_cons_of_mem _ hy)
    exact ⟨n :: fs, by rw [e]; rfl⟩
/-- a reason -/
def Rsn (x : D) : Prop := ∃ a b, x = .tuple [a, b] ∧ An false 1 0 a ∧ An false 3 1 b
theorem Rsn.an {x : D} (h : Rsn x) : An false 10 2 x := by
  obtain ⟨a, b, rfl, h1, h2⟩ := h
  exact (An_two h1 h2).mono (by decide) (by decide)
theorem strG (p : Bool) : An p 1 0 (.str (Str.ofString "gate")) := by cases p <;> exact ⟨by decide +kernel, by decide +kernel, by decide +kernel, by decide +kernel⟩
theorem strW (p : Bool) : An p 1 0 (.str (Str.ofString "walker")) := by cases p <;> exact ⟨by decide +kernel, by decide +kernel, by decide +kernel, by decide +kernel⟩
theorem str0 (p : Bool) : An p 1 0 (.str (Str.ofString "0")) := by cases p <;> exact ⟨by decide +kernel, by decide +kernel, by decide +kernel, by decide +kernel⟩
theorem AnB (p b : Bool) : An p 1 0 (.bool b) := by cases p <;> cases b <;> exact ⟨by decide +kernel, by decide +kernel, by decide +kernel, by decide +kernel⟩
theorem AnE : An false 1 1 (.dict []) := ⟨by decide +kernel, by decide +kernel, by decide +kernel, by decide +kernel⟩
theorem mul_lst {xs : List D} {n : Nat} (hn : n ≤ 100) (hl : xs.length ≤ 1000) : opBin .mul (.list xs) (.int n) = some (.new (List.replicate n xs).flatten) := by
  show gd (decide ((n : Int).natAbs < 2 ^ 62) && decide (xs.length * (n : Int).toNat ≤ Lim)) (R.new (List.replicate (n : Int).toNat xs).flatten) = _
  have h1 : (n : Int).natAbs < 2 ^ 62 := Nat.lt_of_le_of_lt (show (n : Int).natAbs ≤ 100 by omega) (by decide)
  have h2 : xs.length * (n : Int).toNat ≤ 16777216 := by
    rw [Int.toNat_natCast]
    exact Nat.le_trans (Nat.mul_le_mul hl hn) (by decide)
  rw [decide_eq_true h1, decide_eq_true (show xs.length * (n : Int).toNat ≤ Lim from h2), Int.toNat_natCast]
  rfl
theorem rep_mem {α : Type} {xs : List α} {n : Nat} {x : α} (h : x ∈ (List.replicate n xs).flatten) : x ∈ xs := by
  obtain ⟨l, hl, hx⟩ := List.mem_flatten.mp h
  rw [List.eq_of_mem_replicate hl] at hx
  exact hx
theorem rep_len {α : Type} (xs : List α) : ∀ n : Nat, (List.replicate n xs).flatten.length = n * xs.length
  | 0 => by simp
  | n + 1 => by rw [List.replicate_succ, List.flatten_cons, List.length_append, rep_len xs n, Nat.succ_mul, Nat.add_comm]
theorem thg_bar {xs : List D} {rz w : D} (hw : w = wBar ∨ w = wBig ∨ w = .none) (hx : ∀ x ∈ xs, An false 3 1 x) (hl : xs.length ≤ 50) (hr : Rsn rz) : Thg (.tuple [w, .tuple xs, rz]) := by
  have aw : An false 1 0 w := by
    rcases hw with rfl | rfl | rfl
    · exact ⟨by decide +kernel, by decide +kernel, by decide +kernel, by decide +kernel⟩
    · exact ⟨by decide +kernel, by decide +kernel, by decide +kernel, by decide +kernel⟩
    · exact .non false
  refine ⟨(An_three aw (An_tup hx hl) hr.an).mono (by decide) (by decide), fun a l b e => ?_, fun a l b e => ?_⟩
  · cases e; exact hw
  · cases e; omega
theorem thg_else {v : D} (h : An false 300 6 v) (n : ∀ w l b, v ≠ .tuple [w, l, b]) : Thg v := ⟨h, fun w l b e => absurd e (n w l b), fun w l b e => absurd e (n w _ b)⟩
theorem odd_thg {xs : List D} {a b : D} (hx : ∀ x ∈ xs, An false 3 1 x) (hl : xs.length ≤ 50) (h1 : An false 1 0 a) (h2 : An false 3 1 b) : ∀ v ∈ [.tuple [wBar, .list xs, .tuple [a, b]], .tuple [wBar, .tuple xs, .list [a, b]], .list [wBar, .tuple xs, .tuple [a, b]], .tuple [wBar, .tuple xs], .tuple [wBar, .tuple xs, .tuple [a, b], .tuple []], .tuple [.str (Str.ofString "moves"), .list []], .tuple [wBig, .tuple xs, .tuple [a, b]], .tuple [.none, .tuple xs, .tuple [a, b]], .none, .tuple [], wBar, .dict [], .tuple [wBar, .tuple xs, .tuple [a, b, .int 0]], .tuple [wBar, .tuple xs, .none], .int 0, .bool true], Thg v := by
  have rz : Rsn (.tuple [a, b]) := ⟨a, b, rfl, h1, h2⟩
  have aw : An false 1 0 wBar := ⟨by decide +kernel, by decide +kernel, by decide +kernel, by decide +kernel⟩
  have am : An false 1 0 (.str (Str.ofString "moves")) := ⟨by decide +kernel, by decide +kernel, by decide +kernel, by decide +kernel⟩
  have at_ : An false 151 2 (.tuple xs) := (An_tup hx hl).mono (by decide) (by decide)
  have al : An false 151 2 (.list xs) := (An.lstF (Ans_all hx)).mono (by omega) (by decide)
  have a0 : An false 1 0 (.int 0) := .int false (by decide)
  intro v hv
  simp only [List.mem_cons, List.not_mem_nil, or_false] at hv
  rcases hv with rfl | rfl | rfl | rfl | rfl | rfl | rfl | rfl | rfl | rfl | rfl | rfl | rfl | rfl | rfl | rfl
  · refine ⟨(An_three aw al rz.an).mono (by decide) (by decide), fun w l b e => ?_, fun w l b e => ?_⟩
    · cases e; exact .inl rfl
    · cases e
  · refine ⟨(An_three aw at_ (An.lstF (.cons h1 (.cons h2 .nil)))).mono (by decide) (by decide), fun w l b e => ?_, fun w l b e => ?_⟩
    · cases e; exact .inl rfl
    · cases e; omega
  · exact thg_else ((An.lstF (.cons aw (.cons at_ (.cons rz.an .nil)))).mono (by decide) (by decide)) fun w l b e => by cases e
  · exact thg_else ((An_two aw at_).mono (by decide) (by decide)) fun w l b e => by cases e
  · exact thg_else ((An.tup (.cons aw (.cons at_ (.cons rz.an (.cons (An.tup .nil) .nil))))).mono (by decide) (by decide)) fun w l b e => by cases e
  · exact thg_else ((An_two am (An.lstF .nil)).mono (by decide) (by decide)) fun w l b e => by cases e
  · exact thg_bar (.inr (.inl rfl)) hx hl rz
  · exact thg_bar (.inr (.inr rfl)) hx hl rz
  · exact thg_else ((An.non false).mono (by decide) (by decide)) fun w l b e => by cases e
  · exact thg_else ((An.tup .nil).mono (by decide) (by decide)) fun w l b e => by cases e
  · exact thg_else (aw.mono (by decide) (by decide)) fun w l b e => by cases e
  · exact thg_else (AnE.mono (by decide) (by decide)) fun w l b e => by cases e
  · refine ⟨(An_three aw at_ (An_three h1 h2 a0)).mono (by decide) (by decide), fun w l b e => ?_, fun w l b e => ?_⟩
    · cases e; exact .inl rfl
    · cases e; omega
  · refine ⟨(An_three aw at_ (An.non false)).mono (by decide) (by decide), fun w l b e => ?_, fun w l b e => ?_⟩
    · cases e; exact .inl rfl
    · cases e; omega
  · exact thg_else (a0.mono (by decide) (by decide)) fun w l b e => by cases e
  · exact thg_else ((AnB false true).mono (by decide) (by decide)) fun w l b e => by cases e
theorem thing_specC {k f idr ic iu il ip ih inr it : Nat} (hf : prog[f]? = some (C_thing idr ic iu il)) (hd : prog[idr]? = some B_draw) (hc : prog[ic]? = some (C_is_cut ip)) (hp : prog[ip]? = some C_parts) (hu : prog[iu]? = some C_is_unlike) (hlo : prog[il]? = some (C_loose ih inr it)) (hho : prog[ih]? = some C_hosts) (hn : prog[inr]? = some C_is_near) (ht : prog[it]? = some (C_table ip)) (cells : List Int) {at_ g : Int} (h3 : 0 ≤ at_) (h4 : at_ + 200 < 1000000) (h5 : 0 ≤ g)
    {gs : List Gt} {bars : List D} {r : Nat} {hs ks : List Int} (S : Scene gs bars r ks) (gl : gs.length ≤ 24) (hh : ∀ a ∈ hs, 0 ≤ a ∧ a < r) (hl : hs.length = ks.length) (wl : ks.length ≤ 5) {ls os : List Ow} (l1 : ls.length = gs.length) (HP : Hope ks.length gs.length os) :
    Ret (run prog fuel (k + 4) f (.ol true (pen cells at_ g) :: [webD r gs bars, hopeD hs ls, hopeD ks os].map .sh)) (PenQ cells at_ 60 (fun m => ∃ d, m = .sh d ∧ Thg d) ([webD r gs bars, hopeD hs ls, hopeD ks os].map .sh)) := by
  refine ret_run (fd := C_thing idr ic iu il) hf rfl (Nat.le_of_ble_eq_true rfl) rfl ?_
  simp [C_thing]
  refine call_ret (ds := [webD r gs bars, hopeD ks os, .none]) rfl (by simp) (loose_specC (k := k) hlo hho hn ht hp S gl HP none) fun m e => ?_
  obtain ⟨fs, ef⟩ := ssetI_nats (looseT gs bars r ks os none gs.length [])
  rw [ef, nats_map] at e
  subst e
  clear ef
  simp
  refine ⟨small_of (by omega) (by omega), ?_⟩
  refine out_comp (m := .ol false (fs.map natD)) (js := fs) (by simp) (.inr (.inr ⟨_, rfl⟩)) rfl (by omega) (by decide) (by simp) ?_
  have lt := outT_lt (n := gs.length) (js := fs)
  have ll : (outT gs.length fs).length ≤ gs.length := by
    have := List.length_filter_le (fun g => !decide (g ∈ fs)) (List.range gs.length)
    rwa [List.length_range] at this
  generalize outT gs.length fs = lot at lt ll
  simp
  refine wp_pure (fun d => if (fun g => unlT ls os g) (nat_of d) then some (.tuple [.str (Str.ofString "gate"), d]) else none) rfl (by rw [List.length_map]; show lot.length ≤ 16777216; omega) (fun x hx => ?_) ?_
  · obtain ⟨g, hg, rfl⟩ := List.mem_map.mp hx
    have lg := lt g hg
    simp [wipeE, Tg.vars, natD]
    refine call_sh (ds := [hopeD hs ls, hopeD ks os, .int g]) rfl (by simp) (unlike_specC (k := k + 2) hu (by omega) (by rw [HP.ln]; exact lg)) ?_
    simp [truth]
    refine wpI_of (fun h => ?_) fun h => ?_
    · simp [h, nat_of, wipeE]
    · simp [h, nat_of, wipeE]
  · have r1 : ∀ x ∈ (lot.map natD).filterMap (fun d => if (fun g => unlT ls os g) (nat_of d) then some (.tuple [.str (Str.ofString "gate"), d]) else none), Rsn x := fun x hx => by
      obtain ⟨d, hd', e⟩ := List.mem_filterMap.mp hx
      obtain ⟨g, hg, rfl⟩ := List.mem_map.mp hd'
      have lg := lt g hg
      split at e
      · cases e
        exact ⟨_, _, rfl, strG false, (An_nat false (by omega)).mono (by decide) (by decide)⟩
      · cases e
    have n1 := List.length_filterMap_le (fun d => if (fun g => unlT ls os g) (nat_of d) then some (PyData.tuple [.str (Str.ofString "gate"), d]) else none) (lot.map natD)
    rw [List.length_map] at n1
    generalize (lot.map natD).filterMap (fun d => if (fun g => unlT ls os g) (nat_of d) then some (PyData.tuple [.str (Str.ofString "gate"), d]) else none) = due1 at r1 n1
    simp
    refine ⟨small_of (by omega) (by omega), ?_⟩
    rw [rng_nat]
    refine wp_pure (fun d => if (fun w => cutT mgT gs bars r hs ks lot w) (nat_of d) then some (.tuple [.str (Str.ofString "walker"), d]) else none) rfl (by rw [List.length_map, List.length_range]; show ks.length ≤ 16777216; omega) (fun x hx => ?_) ?_
    · obtain ⟨w, hw, rfl⟩ := List.mem_map.mp hx
      have lw := List.mem_range.mp hw
      simp [wipeE, Tg.vars, natD]
      refine call_same [.sh (webD r gs bars), .sh (hopeD hs ls), .sh (hopeD ks os), .sh (.list (lot.map natD)), .sh (.int w)] (by simp [argsOf, R.arg]) (by simp [ownsOf]) (by simp [srcOk]) (cut_specC (k := k + 1) hc hp S hh hl lw (.inr (.inl rfl))) fun m e => ?_
      subst e
      simp [truth]
      refine wpI_of (fun h => ?_) fun h => ?_
      · simp [h, nat_of, wipeE]
      · simp [h, nat_of, wipeE]
    · have r2 : ∀ x ∈ ((List.range ks.length).map natD).filterMap (fun d => if (fun w => cutT mgT gs bars r hs ks lot w) (nat_of d) then some (.tuple [.str (Str.ofString "walker"), d]) else none), Rsn x := fun x hx => by
        obtain ⟨d, hd', e⟩ := List.mem_filterMap.mp hx
        obtain ⟨g, hg, rfl⟩ := List.mem_map.mp hd'
        have lg := List.mem_range.mp hg
        split at e
        · cases e
          exact ⟨_, _, rfl, strW false, (An_nat false (by omega)).mono (by decide) (by decide)⟩
        · cases e
      have n2 := List.length_filterMap_le (fun d => if (fun w => cutT mgT gs bars r hs ks lot w) (nat_of d) then some (PyData.tuple [.str (Str.ofString "walker"), d]) else none) ((List.range ks.length).map natD)
      rw [List.length_map, List.length_range] at n2
      generalize ((List.range ks.length).map natD).filterMap (fun d => if (fun w => cutT mgT gs bars r hs ks lot w) (nat_of d) then some (PyData.tuple [.str (Str.ofString "walker"), d]) else none) = due2 at r2 n2
      have r3 : ∀ x ∈ due1 ++ due2, Rsn x := app_all r1 r2
      have n3 : (due1 ++ due2).length ≤ 29 := by rw [List.length_append]; omega
      simp
      refine ⟨by omega, ?_⟩
      generalize due1 ++ due2 = due at r3 n3
      have nats_an : ∀ x ∈ lot.map natD, An false 3 1 x := fun x hx => by
        obtain ⟨g, hg, rfl⟩ := List.mem_map.mp hx
        exact (An_nat false (by have := lt g hg; omega)).mono (by decide) (by decide)
      have nl : (lot.map natD).length ≤ 24 := by rw [List.length_map]; omega
      generalize lot.map natD = lotD at nats_an nl
      refine w_drawB hd rfl (by omega) (by omega) (by omega) (by omega) h5 fun v1 a1 g1 u1 u2 u3 u4 u5 => ?_
      simp
      refine w_drawB hd rfl (by omega) (by omega) (by omega) (by omega) u5 fun v2 a2 g2 w1 w2 w3 w4 w5 => ?_
      simp
      refine wpO_at w1 (by simpa using w2) fun index hix => ?_
      have aix : An false 3 1 index := by
        simp only [List.mem_cons, List.not_mem_nil, or_false] at hix
        rcases hix with rfl | rfl | rfl | rfl | rfl | rfl | rfl
        · exact (An.int false (by omega)).mono (by decide) (by decide)
        · exact (AnB false true).mono (by decide) (by decide)
        · exact (An.int false (by decide)).mono (by decide) (by decide)
        · exact (An.non false).mono (by decide) (by decide)
        · exact (str0 false).mono (by decide) (by decide)
        · exact (An.lstF (.cons (An.int false (i := 0) (by decide)) .nil)).mono (by decide) (by decide)
        · exact AnE.mono (by decide) (by decide)
      have e3 : opBin .mul (.list due) (.int 3) = some (.new (List.replicate 3 due).flatten) := mul_lst (n := 3) (by decide) (by omega)
      simp [e3]
      have two : ∀ {d : D}, An false 3 1 d → ∀ x ∈ [PyData.tuple [.str (Str.ofString "gate"), d], .tuple [.str (Str.ofString "walker"), d]], Rsn x := fun {d} h x hx => by
        simp only [List.mem_cons, List.not_mem_nil, or_false] at hx
        rcases hx with rfl | rfl
        · exact ⟨_, _, rfl, strG false, h⟩
        · exact ⟨_, _, rfl, strW false, h⟩
      have r4 : ∀ x ∈ due ++ (due ++ (due ++ [PyData.tuple [.str (Str.ofString "gate"), index], .tuple [.str (Str.ofString "walker"), index]])), Rsn x := app_all r3 (app_all r3 (app_all r3 (two aix)))
      have n4 : (due ++ (due ++ (due ++ [PyData.tuple [.str (Str.ofString "gate"), index], .tuple [.str (Str.ofString "walker"), index]]))).length ≤ 89 := by
        simp only [List.length_append, List.length_cons, List.length_nil]
        omega
      refine ⟨by omega, ?_⟩
      generalize due ++ (due ++ (due ++ [PyData.tuple [.str (Str.ofString "gate"), index], .tuple [.str (Str.ofString "walker"), index]])) = rs0 at r4 n4
      refine w_drawB hd rfl (by omega) (by omega) (by omega) (by omega) w5 fun v3 a3 g3 x1 x2 x3 x4 x5 => ?_
      simp
      refine w_drawB hd rfl (by omega) (by omega) (by omega) (by omega) x5 fun v4 a4 g4 y1 y2 y3 y4 y5 => ?_
      simp
      have r5 : ∀ x ∈ rs0 ++ [PyData.tuple [.str (Str.ofString "gate"), .int v3], .tuple [.str (Str.ofString "walker"), .int v4]], Rsn x := app_all r4 fun x hx => by
        simp only [List.mem_cons, List.not_mem_nil, or_false] at hx
        rcases hx with rfl | rfl
        · exact ⟨_, _, rfl, strG false, (An.int false (by omega)).mono (by decide) (by decide)⟩
        · exact ⟨_, _, rfl, strW false, (An.int false (by omega)).mono (by decide) (by decide)⟩
      have n5 : (rs0 ++ [PyData.tuple [.str (Str.ofString "gate"), .int v3], .tuple [.str (Str.ofString "walker"), .int v4]]).length = rs0.length + 2 := by simp
      refine ⟨by omega, ?_⟩
      generalize rs0 ++ [PyData.tuple [.str (Str.ofString "gate"), .int v3], .tuple [.str (Str.ofString "walker"), .int v4]] = rsn at r5 n5
      refine w_drawB hd rfl (by omega) (by omega) (by omega) (by omega) y5 fun v5 a5 g5 z1 z2 z3 z4 z5 => ?_
      simp
      refine wpO_at z1 (by omega) fun rz hrz => ?_
      obtain ⟨ra, rb, rfl, ara, arb⟩ := r5 rz hrz
      refine w_drawB hd rfl (by omega) (by omega) (by omega) (by omega) z5 fun pick a6 g6 p1 p2 p3 p4 p5 => ?_
      simp
      refine w_drawB hd rfl (by omega) (by omega) (by omega) (by omega) p5 fun at2 a7 g7 q1 q2 q3 q4 q5 => ?_
      have rr : Rsn (.tuple [ra, rb]) := ⟨ra, rb, rfl, ara, arb⟩
      have bar : ∀ {xs : List D}, (∀ x ∈ xs, An false 3 1 x) → xs.length ≤ 50 → Thg (.tuple [wBar, .tuple xs, .tuple [ra, rb]]) := fun h1 h2 => thg_bar (.inl rfl) h1 h2 rr
      have hpk : pick = 0 ∨ pick = 1 ∨ pick = 2 ∨ pick = 3 ∨ 4 ≤ pick := by omega
      rcases hpk with rfl | rfl | rfl | rfl | hpk
      · simp
        refine ⟨rfl, ?_⟩
        refine wp_compL (fun j acc ρ => ∃ a8 g8 x15, ρ = [some (.ol true (pen cells a8 g8)), some (.sh (webD r gs bars)), some (.sh (hopeD hs ls)), some (.sh (hopeD ks os)), some (.ol false (fs.map natD)), some (.sh (.list lotD)), some (.ol false due), some (.sh index), some (.ol false rsn), some (.sh (.tuple [ra, rb])), some (.sh (.int 0)), some (.sh (.int at2)), none, none, none, x15, none] ∧ a7 ≤ a8 ∧ a8 ≤ a7 + j ∧ 0 ≤ g8 ∧ acc.length ≤ j ∧ ∀ x ∈ acc, An false 3 1 x)
          ⟨a7, g7, none, rfl, by omega, by omega, q5, Nat.le_refl _, fun _ h => by cases h⟩ ?_ ?_
        · rintro j d acc ρ hd' ⟨a8, g8, x15, rfl, c1, c2, c3, c4, c5⟩
          have hj : j < lotD.length := (List.getElem?_eq_some_iff.mp hd').1
          simp [wipeE, Tg.vars]
          refine w_drawB hd rfl (by omega) (by omega) (by omega) (by omega) c3 fun v6 a9 g9 b1 b2 b3 b4 b5 => ?_
          simp
          refine wpI_of (fun _ => ?_) fun _ => ?_
          · have l5 : acc.length < 16777216 := by omega
            exact ⟨l5, a9, g9, ⟨_, rfl⟩, by omega, by omega, b5, by simp; omega, app_all (P := fun x => An false 3 1 x) c5 fun y hy => by rw [List.mem_singleton.mp hy]; exact nats_an d (List.mem_of_getElem? hd')⟩
          · exact ⟨a9, g9, ⟨_, rfl⟩, by omega, by omega, b5, by omega, c5⟩
        · rintro acc ρ ⟨a8, g8, x15, rfl, c1, c2, c3, c4, c5⟩
          simp [backE, Tg.vars]
          exact penq (by omega) (by omega) c3 ⟨_, rfl, bar c5 (by omega)⟩
      · simp
        refine w_drawB hd rfl (by omega) (by omega) (by omega) (by omega) q5 fun v6 a8 g8 b1 b2 b3 b4 b5 => ?_
        simp
        refine w_drawB hd rfl (by omega) (by omega) (by omega) (by omega) b5 fun v7 a9 g9 d1 d2 d3 d4 d5 => ?_
        simp
        refine wpO_at d1 (by simpa using d2) fun part hpt => ?_
        have apt : An false 3 1 part := by
          simp only [List.mem_cons, List.not_mem_nil, or_false] at hpt
          rcases hpt with rfl | rfl | rfl | rfl | rfl | rfl | rfl | rfl
          · exact (An.int false (by omega)).mono (by decide) (by decide)
          · exact (AnB false true).mono (by decide) (by decide)
          · exact (str0 false).mono (by decide) (by decide)
          · exact (An.non false).mono (by decide) (by decide)
          · exact (An.int false (by decide)).mono (by decide) (by decide)
          · exact (An.lstF (.cons (An.int false (i := 0) (by decide)) .nil)).mono (by decide) (by decide)
          · exact AnE.mono (by decide) (by decide)
          · exact (An.tup (.cons (An.int false (i := 0) (by decide)) .nil)).mono (by decide) (by decide)
        have lc1 := cut_len lotD none (some at2)
        have lc2 := cut_len lotD (some at2) none
        have big : ∀ x ∈ cutL lotD none (some at2) ++ (part :: cutL lotD (some at2) none), An false 3 1 x := app_all (cut_all nats_an) fun x hx => by
          rcases List.mem_cons.mp hx with rfl | hx
          · exact apt
          · exact cut_all nats_an x hx
        have bl : (cutL lotD none (some at2) ++ (part :: cutL lotD (some at2) none)).length ≤ 49 := by
          simp only [List.length_append, List.length_cons]
          omega
        exact ⟨by omega, by omega, penq (by omega) (by omega) d5 ⟨_, rfl, bar big (by omega)⟩⟩
      · simp
        have lr := cut_len lotD (some (-1)) none
        refine ⟨by omega, ?_⟩
        refine w_drawB hd rfl (by omega) (by omega) (by omega) (by omega) q5 fun v6 a8 g8 b1 b2 b3 b4 b5 => ?_
        have e2 : v6 = 0 ∨ v6 = 1 := by omega
        rcases e2 with rfl | rfl
        · simp
          exact penq (by omega) (by omega) b5 ⟨_, rfl, bar (fun x hx => nats_an x (List.mem_reverse.mp hx)) (by rw [List.length_reverse]; omega)⟩
        · simp
          exact penq (by omega) (by omega) b5 ⟨_, rfl, bar (app_all nats_an (cut_all nats_an)) (by rw [List.length_append]; omega)⟩
      · simp
        refine w_drawB hd rfl (by omega) (by omega) (by omega) (by omega) q5 fun v6 a8 g8 b1 b2 b3 b4 b5 => ?_
        simp
        refine wpO_at b1 (by simpa using b2) fun res hres => ?_
        have T := odd_thg nats_an (by omega) ara arb res hres
        exact penq (by omega) (by omega) b5 ⟨_, rfl, T⟩
      · have k0 : ¬ pick = 0 := by omega
        have k1 : ¬ pick = 1 := by omega
        have k2 : ¬ pick = 2 := by omega
        have k3 : ¬ pick = 3 := by omega
        simp [k0, k1, k2, k3]
        exact penq (by omega) (by omega) q5 ⟨_, rfl, bar nats_an (by omega)⟩
end MI
namespace MI
open PySem
/-! ### drawn things, typed -/
theorem ow_ex {w : Nat} {x : D} (h : OwnerB w x) : ∃ o : Ow, x = owD o ∧ ∀ v, o = some (some v) → v < w := by
  rcases h with rfl | rfl | ⟨a, rfl, a0, a1⟩
  · exact ⟨none, rfl, fun v e => by cases e⟩
  · exact ⟨some none, rfl, fun v e => by cases e⟩
  · refine ⟨some (some a.toNat), ?_, fun v e => ?_⟩
    · simp only [owD]
      congr 1
      omega
    · cases e
      omega
theorem hope_typed {r : Nat} {n w : Nat} {d : D} (h : HopeB r n w d) : ∃ (ks : List Int) (os : List Ow), d = hopeD ks os ∧ ks.length = w ∧ (∀ a ∈ ks, 0 ≤ a ∧ a < r) ∧ Hope w n os := by
  obtain ⟨hs, ls, rfl, e1, e2, hh, hl⟩ := h.ex
  obtain ⟨ks, rfl, pk⟩ := exL (f := PyData.int) (P := fun a => 0 ≤ a ∧ a < (r : Int)) fun x hx => by obtain ⟨a, e, p⟩ := hh x hx; exact ⟨a, e, p⟩
  obtain ⟨os, rfl, po⟩ := exL (f := owD) (P := fun o => ∀ v, o = some (some v) → v < w) fun x hx => ow_ex (hl x hx)
  rw [List.length_map] at e1 e2
  exact ⟨ks, os, rfl, e1, pk, ⟨e2, po⟩⟩
theorem lordB_own {w : Nat} {x : D} (h : LordB w x) : OwnerB w x := by
  rcases h with h | h
  · exact .inl h
  · exact .inr (.inr h)
theorem stateB_hope {r : Int} {n w : Nat} {d : D} (h : StateB r n w d) : HopeB r n w d := by
  obtain ⟨hs, ls, rfl, l1, l2, hh, hl⟩ := h.ex
  exact ⟨hs, ls, rfl, l1, l2, hh, fun x hx => lordB_own (hl x hx)⟩
theorem barsB_plain {n : Int} {ds : List D} (h : BarsB n ds) : PyData.plainAll ds = true := by
  induction ds with
  | nil => rfl
  | cons d ds ih =>
    obtain ⟨a, b, rfl, _⟩ := h d List.mem_cons_self
    have := ih fun x hx => h x (List.mem_cons_of_mem _ hx)
    simp [PyData.plainAll, PyData.plain, this]
theorem web_typed {mr : Int} {mg : Nat} {d : D} (h : WebB mr mg d) : ∃ (r : Nat) (gs : List Gt) (bars : List D), d = webD r gs bars ∧ 1 ≤ r ∧ (r : Int) ≤ mr ∧ gs.length ≤ mg ∧ (∀ g ∈ gs, GateA r g) ∧ BarsB gs.length bars ∧ bars.length ≤ 24 := by
  obtain ⟨r, gates, bars, rfl, r0, r1, gl, hg, hb, bl⟩ := h.ex
  obtain ⟨n, rfl⟩ : ∃ n : Nat, (n : Int) = r := ⟨r.toNat, by omega⟩
  obtain ⟨gs, rfl, pg⟩ := exL (f := gateD) (P := GateA n) fun x hx => by
    obtain ⟨a, b, c, e, p⟩ := hg x hx
    exact ⟨(a, b, c), e, p⟩
  rw [List.length_map] at gl hb
  exact ⟨n, gs, bars, rfl, by omega, r1, gl, pg, hb, bl⟩
theorem scene_of {r : Nat} {gs : List Gt} {bars : List D} {hs : List Int} (r1 : r ≤ 12) (gl : gs.length ≤ 24) (wl : hs.length ≤ 5) (hb : BarsB gs.length bars) (hg : ∀ g ∈ gs, GateA r g) (hh : ∀ a ∈ hs, 0 ≤ a ∧ a < r) : Scene gs bars r hs := ⟨by omega, by omega, by omega, barsB_plain hb, hg, hh⟩
theorem repr_bl (b : Bool) : reprD (.bool b) = some (.val (.str (PyData.bool b).shown)) := repr_one (AnB true b) (by decide) (by decide)
end MI
namespace MI
open PySem
variable {prog : List Fd} {fuel : Nat}
/-! ### star calls -/
section
variable (cx : Cxt) (ρ : Env)
@[simp ↓] theorem s_callS (f m : Nat) (es : List Ex) (st : Option Ex) (refs : List Bool) (Q : R → Env → Prop) : Wp (evE cx (.callS f es st refs m) ρ) Q = Wp (evRs cx es refs ρ) fun rs ρ => Wp (evSt cx st ρ) fun ss ρ => Wp (starR cx f m (rs ++ ss) ρ) Q := by
  rw [evE_callS, evRx_eq]
  simp only [s_bind, s_ok]
@[simp ↓] theorem s_st0 (Q : List R → Env → Prop) : Wp (evSt cx none ρ) Q = Q [] ρ := rfl
@[simp ↓] theorem s_st1 (e : Ex) (Q : List R → Env → Prop) : Wp (evSt cx (some e) ρ) Q = Wp (evE cx e ρ) fun r ρ => Wp (MI.frz r ρ) fun d ρ => wpO (seqOf d) fun ds => Q (ds.map .val) ρ := by
  unfold evSt starD
  simp only [s_bind, s_lift]
  congr 1
  funext r ρ
  congr 1
  funext d ρ
  cases seqOf d <;> rfl
end
theorem vals_all : ∀ ds : List D, valsOf (ds.map .val) = some ds
  | [] => rfl
  | d :: ds => by
    simp only [List.map_cons, valsOf, vals_all ds]
    rfl
theorem star_one' {cx : Cxt} {f : Nat} {d : D} {ds : List D} {ρ : Env} {Q : R → Env → Prop} (hl : ds.length ≤ 1000) (h : Wp (callR cx f [.val d, .val (.tuple ds)] [.e 0, .e 1] ρ) Q) : Wp (starR cx f 1 (.val d :: ds.map .val) ρ) Q := by
  unfold starR
  have e : valsOf ((R.val d :: ds.map .val).drop 1) = some ds := vals_all ds
  rw [e]
  dsimp only
  rw [if_pos ⟨by simp, Nat.le_trans hl (by decide)⟩]
  exact h
/-! ### a gate shut -/
def L_with_bars : Fd := ⟨2, 2, [.ret (.tup [.idx (.var 0) (.int 0), .idx (.var 0) (.int 1), .bi1 .tuple (.sset (.bin .add (.idx (.var 0) (.int 2)) (.var 1)))])]⟩
def L_barred_for_all (i_with_bars : Nat) : Fd := ⟨2, 4, .asg 2 (.bi1 .tuple (.comp (.tup [.var 3, .var 1]) (.name 3) (.rng [.bin .add (.glo "LAST_WALKER" (.int (4))) (.int 1)]) none)) :: [.ret (.callS i_with_bars [.var 0] (some (.var 2)) [true] 1)]⟩
def L_shut (i_barred_for_all : Nat) : Fd := ⟨2, 2, [.ret (.ite (.cmp .isN (.var 1) (.non)) (.var 0) (.call i_barred_for_all [.var 0, .var 1] [true, false] [.e 0, .e 1]))]⟩
def five (b : Nat) : List D := (List.range 5).map fun (w : Nat) => .tuple [.int w, .int b]
theorem shut_bars {n : Nat} {bars : List D} {b : Nat} (hb : BarsB n bars) (bl : bars.length ≤ 24) (hn : n ≤ 24) (b1 : b < n) : ∃ bars', ssetL (bars ++ five b) = some (.new bars') ∧ BarsB n bars' ∧ bars'.length ≤ 29 := by
  have h5 : ∀ x ∈ five b, ∃ a c : Int, x = .tuple [.int a, .int c] ∧ 0 ≤ a ∧ a < 5 ∧ 0 ≤ c ∧ c < n := fun x hx => by
    obtain ⟨w, hw, rfl⟩ := List.mem_map.mp hx
    have := List.mem_range.mp hw
    exact ⟨w, b, rfl, by omega, by omega, by omega, by omega⟩
  have all : ∀ x ∈ bars ++ five b, ∃ a c : Int, x = .tuple [.int a, .int c] ∧ 0 ≤ a ∧ a < 5 ∧ 0 ≤ c ∧ c < n := app_all hb h5
  have ll : (bars ++ five b).length ≤ 29 := by rw [List.length_append]; simp [five]; omega
  obtain ⟨ys, e, sub, l2⟩ := sset_ok (xs := bars ++ five b) (fun x hx => by
    obtain ⟨a, c, e, p1, p2, p3, p4⟩ := all x hx
    exact ⟨a, c, e, p1, by omega, p3, by omega⟩) (by omega)
  exact ⟨ys, e, fun x hx => all x (sub x hx), by omega⟩
theorem sset_t (xs : List D) : ssetD (.tuple xs) = ssetL xs := rfl
theorem sset_l (xs : List D) : ssetD (.list xs) = ssetL xs := rfl
theorem with_specL {k f : Nat} (hf : prog[f]? = some L_with_bars) {r : Int} {gs : List Gt} {bars more bars' : List D} (hl : bars.length + more.length ≤ 1000) (e : ssetL (bars ++ more) = some (.new bars')) :
    Ret (run prog fuel (k + 1) f ([webD r gs bars, .tuple more].map .sh)) (fun m fin => m = .sh (webD r gs bars') ∧ fin = [webD r gs bars, .tuple more].map .sh) := by
  refine ret_run (fd := L_with_bars) hf rfl (Nat.le_of_ble_eq_true rfl) rfl ?_
  have h1 : bars.length + more.length ≤ 16777216 := by omega
  simp [L_with_bars]
  refine ⟨by omega, ?_⟩
  simp [sset_t, e]
  rfl
theorem barred_specL {k f iw : Nat} (hf : prog[f]? = some (L_barred_for_all iw)) (hw : prog[iw]? = some L_with_bars) {r : Int} {gs : List Gt} {bars bars' : List D} {b : Nat} (hl : bars.length ≤ 900) (e : ssetL (bars ++ five b) = some (.new bars')) :
    Ret (run prog fuel (k + 2) f ([webD r gs bars, .int b].map .sh)) (fun m fin => m = .sh (webD r gs bars') ∧ fin = [webD r gs bars, .int b].map .sh) := by
  refine ret_run (fd := L_barred_for_all iw) hf rfl (Nat.le_of_ble_eq_true rfl) rfl ?_
  simp [L_barred_for_all]
  refine ⟨rfl, ?_⟩
  have e5 : (rngD 0 5 1) = (List.range 5).map natD := rng_nat 5
  rw [e5]
  refine wp_pure (fun d => some (.tuple [d, .int b])) rfl (by decide) (fun x hx => ?_) ?_
  · simp [wipeE, Tg.vars]
  · simp
    have l5 : (five b).length = 5 := by simp [five]
    have ef : List.filterMap ((fun d => some (PyData.tuple [d, PyData.int b])) ∘ natD) (List.range 5) = five b := rfl
    rw [ef]
    refine star_one' (ds := five b) (by omega) ?_
    refine call_sh (ds := [webD r gs bars, .tuple (five b)]) rfl (by simp) (with_specL (k := k) hw (by rw [l5]; omega) e) ?_
    simp
theorem shut0_specL {k f ib : Nat} (hf : prog[f]? = some (L_shut ib)) (w : D) : Ret (run prog fuel (k + 1) f ([w, .none].map .sh)) (fun m fin => m = .sh w ∧ fin = [w, .none].map .sh) := by
  refine ret_run (fd := L_shut ib) hf rfl (Nat.le_of_ble_eq_true rfl) rfl ?_
  simp [L_shut, isNone]
theorem shut1_specL {k f ib iw : Nat} (hf : prog[f]? = some (L_shut ib)) (hb : prog[ib]? = some (L_barred_for_all iw)) (hw : prog[iw]? = some L_with_bars) {r : Int} {gs : List Gt} {bars bars' : List D} {b : Nat} (hl : bars.length ≤ 900) (e : ssetL (bars ++ five b) = some (.new bars')) :
    Ret (run prog fuel (k + 3) f ([webD r gs bars, .int b].map .sh)) (fun m fin => m = .sh (webD r gs bars') ∧ fin = [webD r gs bars, .int b].map .sh) := by
  refine ret_run (fd := L_shut ib) hf rfl (Nat.le_of_ble_eq_true rfl) rfl ?_
  simp [L_shut, isNone]
  refine call_sh (ds := [webD r gs bars, .int b]) rfl (by simp) (barred_specL (k := k) hb hw hl e) ?_
  simp
/-! ### hosts of a standing -/
def L_hosts_by (i_hosts_of : Nat) : Fd := ⟨2, 4, [.ret (.comp (.call i_hosts_of [.var 0, .var 2, .var 3] [true, false, false] [.e 0, .e 1, .e 2]) (.tup [.name 2, .name 3]) (.enum (.idx (.var 1) (.int 1))) none)]⟩
theorem whT_own (bars : List D) (W g : Nat) (o : Option Nat) : whT bars W g (o.map some) = hostT bars g o := by cases o <;> rfl
/-- a standing's owners: nobody's are open -/
def Own (os : List Ow) : Prop := ∀ o ∈ os, o ≠ some none
theorem hostsby_specL {k f ih im : Nat} (hf : prog[f]? = some (L_hosts_by ih)) (hh : prog[ih]? = some (L_hosts_of im)) (hm : prog[im]? = some M_may_pass) {r : Int} {gs : List Gt} {bars : List D} (pb : PyData.plainAll bars = true) {hs : List Int} {os : List Ow} (hO : os.length ≤ 1000) (ho : Own os) :
    Ret (run prog fuel (k + 3) f ([webD r gs bars, hopeD hs os].map .sh)) (fun m fin => m = .ol false ((List.range os.length).map fun g => .tuple ((whT bars hs.length g (owAt os g)).map natD)) ∧ fin = [webD r gs bars, hopeD hs os].map .sh) := by
  refine ret_run (fd := L_hosts_by ih) hf rfl (Nat.le_of_ble_eq_true rfl) rfl ?_
  simp [L_hosts_by]
  refine wp_idx os.length (fun g => .tuple ((whT bars hs.length g (owAt os g)).map natD)) (by rw [enumD_lenA, List.length_map]) rfl (by show os.length ≤ 16777216; omega) (fun j d hj hd => ?_) ?_
  · obtain ⟨o, hoi, rfl⟩ := enum_map_get hd
    have eo : owAt os j = o := by unfold owAt; rw [hoi]; rfl
    have hno := ho o (List.mem_of_getElem? hoi)
    obtain ⟨u, rfl⟩ : ∃ u : Option Nat, o = u.map some := by
      match o, hno with
      | none, _ => exact ⟨none, rfl⟩
      | some (some n), _ => exact ⟨some n, rfl⟩
      | some none, h => exact absurd rfl h
    have ed : owD (u.map some) = ownD u := by cases u <;> rfl
    simp [wipeE, Tg.vars, Tg.varss]
    refine call_ret (ds := [webD r gs bars, .int j, owD (u.map some)]) rfl (by simp) (ed ▸ host_specL (k := k) hh hm pb j u) fun m e => ?_
    subst e
    simp [eo, whT_own]
  · simp
end MI
namespace MI
open PySem
variable {prog : List Fd} {fuel : Nat}
/-! ### stuck lots -/
def S_due_5 (i_hosts : Nat) (i_is_near : Nat) : List Sx := [.ret (.cmp .eq (.comp (.int 1) (.name 5) (.seq (.var 2)) (some (.call i_is_near [.var 0, .var 4, .idx (.var 1) (.int 0), .var 5, .call i_hosts [.var 1, .var 5] [true, true] [.e 0, .e 1]] [true, true, true, false, false] [.e 0, .e 1, .e 2, .e 3, .e 4]))) (.lst []))]
def S_due_4 (i_hosts : Nat) (i_is_near : Nat) (i_table : Nat) : List Sx := .asg 4 (.call i_table [.var 0, .idx (.var 1) (.int 0), .var 3] [true, true, false] [.e 0, .e 1, .e 2]) :: (S_due_5 i_hosts i_is_near)
def S_due_3 (i_hosts : Nat) (i_is_near : Nat) (i_table : Nat) : List Sx := .asg 3 (.comp (.var 5) (.name 5) (.rng [.bi1 .len (.idx (.var 0) (.int 1))]) (some (.cmp .notin (.var 5) (.var 2)))) :: (S_due_4 i_hosts i_is_near i_table)
def S_due_2 (i_hosts : Nat) (i_is_near : Nat) (i_table : Nat) : List Sx := .ite (.or (.cmp .ne (.comp (.var 5) (.name 5) (.seq (.var 2)) (some (.not (.chain .le .lt (.int 0) (.var 5) (.bi1 .len (.idx (.var 0) (.int 1))))))) (.lst [])) (.cmp .ne (.bi1 .list (.var 2)) (.sset (.var 2)))) [.ret (.bl false)] [] :: (S_due_3 i_hosts i_is_near i_table)
def S_due_1 (i_hosts : Nat) (i_is_near : Nat) (i_table : Nat) : List Sx := .ite (.cmp .ne (.comp (.var 5) (.name 5) (.seq (.var 2)) (some (.or (.not (.isa (.var 5) [.int] false)) (.isa (.var 5) [.bool] false)))) (.lst [])) [.ret (.bl false)] [] :: (S_due_2 i_hosts i_is_near i_table)
def S_due (i_hosts : Nat) (i_is_near : Nat) (i_table : Nat) : Fd := ⟨3, 6, .ite (.not (.isa (.var 2) [.tuple] false)) [.ret (.bl false)] [] :: (S_due_1 i_hosts i_is_near i_table)⟩
def S_shut : Fd := ⟨2, 3, [.ret (.tup [.idx (.var 0) (.int 0), .idx (.var 0) (.int 1), .bi1 .tuple (.sset (.bin .add (.bi1 .list (.idx (.var 0) (.int 2))) (.comp (.tup [.var 2, .var 1]) (.name 2) (.rng [.int 5]) none)))])]⟩
def S_value_6t (i_draw : Nat) : List Sx := [.ret (.bi1 .tuple (.comp (.var 10) (.name 10) (.seq (.var 6)) (some (.cmp .gt (.call i_draw [.var 0, .int 3] [true, true] [.e 0, .e 1]) (.int 0)))))]
def S_value_8t : List Sx := [.ret (.bi1 .tuple (.bin .add (.bin .add (.sl (.var 6) none (some (.var 8))) (.lst [.var 9])) (.sl (.var 6) (some (.var 8)) none)))]
def S_value_9t (i_draw : Nat) : List Sx := [.ret (.bi1 .tuple (.bi1 .sorted (.bin .add (.var 6) (.lst [.call i_draw [.var 0, .int 13] [true, true] [.e 0, .e 1]]))))]
def S_value_10t : List Sx := [.ret (.bi1 .tuple (.bin .add (.sl (.var 6) none (some (.var 8))) (.sl (.var 6) (some (.bin .add (.var 8) (.int 1))) none)))]
def S_value_11t (i_draw : Nat) : List Sx := [.ret (.idx (.lst [.var 6, .non, .dct [], .str "", .int 0, .lst [], .tup [.bi1 .tuple (.var 6)], .bl true]) (.call i_draw [.var 0, .int 8] [true, true] [.e 0, .e 1]))]
def S_value_12t : List Sx := [.ret (.bi1 .tuple (.comp (.ite (.cmp .lt (.var 10) (.int 2)) (.bi1 .bool (.var 10)) (.var 10)) (.name 10) (.seq (.var 6)) none))]
def S_value_13 : List Sx := [.ret (.ite (.cmp .eq (.var 7) (.int 6)) (.bi1 .tuple (.bin .add (.var 6) (.sl (.var 6) (some (.neg (.int 1))) none))) (.bi1 .tuple (.var 6)))]
def S_value_12 : List Sx := .ite (.cmp .eq (.var 7) (.int 7)) S_value_12t [] :: S_value_13
def S_value_11 (i_draw : Nat) : List Sx := .ite (.cmp .eq (.var 7) (.int 5)) (S_value_11t i_draw) [] :: S_value_12
def S_value_10 (i_draw : Nat) : List Sx := .ite (.cmp .eq (.var 7) (.int 4)) S_value_10t [] :: (S_value_11 i_draw)
def S_value_9 (i_draw : Nat) : List Sx := .ite (.cmp .eq (.var 7) (.int 3)) (S_value_9t i_draw) [] :: (S_value_10 i_draw)
def S_value_8 (i_draw : Nat) : List Sx := .ite (.cmp .eq (.var 7) (.int 2)) S_value_8t [] :: (S_value_9 i_draw)
def S_value_7 (i_draw : Nat) : List Sx := .ite (.cmp .eq (.var 7) (.int 1)) [.ret (.bi1 .tuple (.rev (.var 6)))] [] :: (S_value_8 i_draw)
def S_value_6 (i_draw : Nat) : List Sx := .ite (.cmp .eq (.var 7) (.int 0)) (S_value_6t i_draw) [] :: (S_value_7 i_draw)
def S_value_5 (i_draw : Nat) : List Sx := .asg 9 (.idx (.lst [.call i_draw [.var 0, .bin .add (.bi1 .len (.idx (.var 1) (.int 1))) (.int 1)] [true, true] [.e 0, .e 1], .neg (.int 1), .bl true, .str "0", .non, .tup [.int 0], .lst [.int 0], .dct [], .bin .pow (.int 10) (.int 50)]) (.call i_draw [.var 0, .int 9] [true, true] [.e 0, .e 1])) :: (S_value_6 i_draw)
def S_value_4 (i_draw : Nat) : List Sx := .asg 8 (.call i_draw [.var 0, .bin .add (.bi1 .len (.var 6)) (.int 1)] [true, true] [.e 0, .e 1]) :: (S_value_5 i_draw)
def S_value_3 (i_draw : Nat) : List Sx := .asg 7 (.call i_draw [.var 0, .int 10] [true, true] [.e 0, .e 1]) :: (S_value_4 i_draw)
def S_value_2 (i_draw : Nat) : List Sx := .asg 6 (.comp (.var 10) (.name 10) (.rng [.bi1 .len (.idx (.var 1) (.int 1))]) (some (.cmp .notin (.var 10) (.var 5)))) :: (S_value_3 i_draw)
def S_value_1 (i_draw : Nat) (i_loose : Nat) : List Sx := .asg 5 (.call i_loose [.var 1, .var 2, .var 4] [true, true, true] [.e 0, .e 1, .e 2]) :: (S_value_2 i_draw)
def S_value (i_draw : Nat) (i_loose : Nat) : Fd := ⟨4, 11, .asg 4 (.idx (.lst [.non, .var 3]) (.call i_draw [.var 0, .int 2] [true, true] [.e 0, .e 1])) :: (S_value_1 i_draw i_loose)⟩
def S_is_stuck_1 (i_hosts_by : Nat) (i_is_closed : Nat) (i_is_lot : Nat) : List Sx := [.ret (.and (.call i_is_lot [.var 0, .var 2] [true, false] [.e 0, .e 1]) (.call i_is_closed [.var 0, .idx (.var 1) (.int 0), .call i_hosts_by [.var 0, .var 1] [true, true] [.e 0, .e 1], .var 2] [true, true, true, false] [.e 0, .e 1, .e 2, .e 3]))]
def S_is_stuck (i_hosts_by : Nat) (i_is_closed : Nat) (i_is_lot : Nat) (i_shut : Nat) : Fd := ⟨4, 4, .asg 0 (.call i_shut [.var 0, .var 3] [false, false] [.e 0, .e 1]) :: (S_is_stuck_1 i_hosts_by i_is_closed i_is_lot)⟩
def stkT (gs : List Gt) (bars : List D) (r : Nat) (ks : List Int) (os : List Ow) (v : D) : Bool := match v with
  | .tuple xs => lotT gs.length (.tuple xs) && closedT gs bars r ks (fun g => whT bars ks.length g (owAt os g)) (xs.map nat_of)
  | _ => false
theorem stk_no {gs : List Gt} {bars : List D} {r : Nat} {ks : List Int} {os : List Ow} {v : D} (h : ∀ xs, v ≠ .tuple xs) : stkT gs bars r ks os v = false := by
  unfold stkT
  split
  · exact absurd rfl (h _)
  · rfl
theorem whH {bars : List D} {W n : Nat} {os : List Ow} (HP : Hope W n os) : ∀ g, ∀ w ∈ whT bars W g (owAt os g), w < W := by
  intro g w hw
  have hw := (whT_mem.mp hw).1
  by_cases hg : g < n
  · exact HP.at hg w hw
  · have : owAt os g = none := by unfold owAt; rw [List.getElem?_eq_none (by rw [HP.ln]; omega)]; rfl
    rw [this] at hw
    cases hw
structure StIx where
  (lb : LbIx)
  (shut clo near out lot gates btw int by_ host : Nat)
structure HasSt (prog : List Fd) (i : Nat) (J : StIx) : Prop where
  st : prog[i]? = some (S_is_stuck J.by_ J.clo J.lot J.shut)
  lb : HasLb prog J.lb
  clo : prog[J.clo]? = some (L_is_closed J.near J.lb.lby J.out)
  near : prog[J.near]? = some (L_is_near J.lb.ends)
  out : prog[J.out]? = some L_outside_of
  lot : prog[J.lot]? = some (L_is_lot J.gates)
  gates : prog[J.gates]? = some (L_are_gates J.btw)
  btw : prog[J.btw]? = some (M_is_between J.int)
  int : prog[J.int]? = some M_is_integer
  by_ : prog[J.by_]? = some (L_hosts_by J.host)
  host : prog[J.host]? = some (L_hosts_of J.lb.may)
/-- the program: what shut gives is the web that is looked at -/
theorem stuck_specL {k i : Nat} {J : StIx} (B : HasSt prog i J) {gs : List Gt} {bars : List D} {r : Nat} {ks : List Int} (S : Scene gs bars r ks) (wl : ks.length ≤ 900) {os : List Ow} (HP : Hope ks.length gs.length os) (ho : Own os) {v w b : D} (hv : ∀ xs, v = .tuple xs → xs.length ≤ 1000)
    (hs : Ret (run prog fuel (k + 5) J.shut ([w, b].map .sh)) (fun m fin => m = .sh (webD r gs bars) ∧ fin = [w, b].map .sh)) :
    Ret (run prog fuel (k + 6) i ([w, hopeD ks os, v, b].map .sh)) (fun m fin => m = .sh (.bool (stkT gs bars r ks os v)) ∧ fin = [w, hopeD ks os, v, b].map .sh) := by
  refine ret_run (fd := S_is_stuck J.by_ J.clo J.lot J.shut) B.st rfl (Nat.le_of_ble_eq_true rfl) rfl ?_
  simp [S_is_stuck]
  refine call_sh (ds := [w, b]) rfl (by simp) hs ?_
  simp [S_is_stuck_1]
  refine call_sh (ds := [webD r gs bars, v]) rfl (by simp) (lot_specL (k := k + 1) B.lot B.gates B.btw B.int hv) ?_
  simp
  refine wpI_of (fun hl => ?_) fun hl => ?_
  · cases v with
    | tuple ys =>
      obtain ⟨js, rfl, hj, ha, en⟩ := lot_nats hl
      have jl : js.length ≤ 1000 := by have := hv _ rfl; rwa [List.length_map] at this
      refine call_ret (ds := [webD r gs bars, hopeD ks os]) rfl (by simp) (hostsby_specL (k := k + 2) B.by_ B.host B.lb.may S.pb (by rw [HP.ln]; exact S.gl) ho) fun m e => ?_
      subst e
      simp
      rw [HP.ln]
      refine call_sh (ds := [webD r gs bars, .tuple (ks.map .int), .list ((List.range gs.length).map fun g => .tuple ((whT bars ks.length g (owAt os g)).map natD)), .tuple (js.map natD)]) rfl (by simp) (closed_specL (k := k + 1) B.clo B.near B.out B.lb S (H := fun g => whT bars ks.length g (owAt os g)) (whH HP) (fun g => Nat.le_trans (whT_len _ _ _ _) (by omega)) hj jl) ?_
      simp [stkT, hl, en]
    | _ => cases hl
  · have e : stkT gs bars r ks os v = false := by
      cases v <;> first | rfl | skip
      simp only [stkT, hl, Bool.false_and]
    simp [e]
theorem filter_intD : ∀ xs : List D, (xs.filterMap fun d => if isIntD d then none else some d).isEmpty = xs.all isIntD
  | [] => rfl
  | x :: xs => by
    rw [List.filterMap_cons, List.all_cons]
    cases h : isIntD x
    · simp
    · simpa using filter_intD xs
theorem idx_int {n : Nat} {xs : List D} (h : xs.all (isIdx n) = true) : xs.all isIntD = true := by
  rw [List.all_eq_true] at h ⊢
  intro x hx
  have := h x hx
  cases x <;> first | rfl | cases this
structure SdIx where
  (hosts near table parts : Nat)
structure HasSd (prog : List Fd) (i : Nat) (J : SdIx) : Prop where
  due : prog[i]? = some (S_due J.hosts J.near J.table)
  hosts : prog[J.hosts]? = some C_hosts
  near : prog[J.near]? = some C_is_near
  table : prog[J.table]? = some (C_table J.parts)
  parts : prog[J.parts]? = some C_parts
theorem sdue_specC {k i : Nat} {J : SdIx} (B : HasSd prog i J) {gs : List Gt} {bars : List D} {r : Nat} {ks : List Int} (S : Scene gs bars r ks) {os : List Ow} (HP : Hope ks.length gs.length os) {v : D} (hv : ∀ xs, v = .tuple xs → xs.length ≤ 60) :
    Ret (run prog fuel (k + 4) i ([webD r gs bars, hopeD ks os, v].map .sh)) (fun m fin => m = .sh (.bool (stkT gs bars r ks os v)) ∧ fin = [webD r gs bars, hopeD ks os, v].map .sh) := by
  have gl := S.gl
  have wl := S.wl
  refine ret_run (fd := S_due J.hosts J.near J.table) B.due rfl (Nat.le_of_ble_eq_true rfl) rfl ?_
  rcases tup_of v with ⟨hn, hno⟩ | ⟨ys, rfl⟩
  · have e : stkT gs bars r ks os v = false := stk_no hno
    simp [S_due, hn, e]
  · have yl := hv ys rfl
    have noI : ys.all (isIdx gs.length) = false → stkT gs bars r ks os (.tuple ys) = false := fun z => by
      simp only [stkT, lotT, z, Bool.false_and]
    simp [S_due, isTy_tt]
    simp [S_due_1]
    refine wp_pure (fun d => if isIntD d then none else some d) rfl (Nat.le_trans yl (by decide)) (fun x hx => ?_) ?_
    · cases x <;> simp [wipeE, Tg.vars, isTy, isIntD]
    · have fe := filter_intD ys
      generalize (ys.filterMap fun d => if isIntD d then none else some d) = bad at fe
      simp only [cont_new, Option.bind_some, ne_lnil, wpO_some, fe]
      refine wpI_of (fun hx => ?_) fun hx => ?_
      · refine noI ?_
        rw [Bool.eq_false_iff]
        intro z
        rw [idx_int z] at hx
        cases hx
      · have hx : ys.all isIntD = true := by simpa using hx
        simp [S_due_2]
        refine wp_pure (fun d => if isIdx gs.length d then none else some d) rfl (Nat.le_trans yl (by decide)) (fun x hx2 => ?_) ?_
        · have hi := List.all_eq_true.mp hx x hx2
          cases x <;> try (cases hi; done)
          rename_i z
          simp [wipeE, Tg.vars, isIdx]
          refine wpI_of (fun h => ?_) fun h => ?_
          · simp at h
            simp [h, truth]
            refine wpI_of (fun h2 => ?_) fun h2 => ?_
            · simp at h2
              exact h2
            · simp at h2
              exact h2
          · simp at h
            intro h1
            omega
        · have fe := filter_idx gs.length ys
          generalize (ys.filterMap fun d => if isIdx gs.length d then none else some d) = bad at fe
          simp only [cont_new, Option.bind_some, ne_lnil, wpO_some, fe]
          refine wpI_of (fun hx3 => ?_) fun hx3 => ?_
          · exact noI (by simpa using hx3)
          · have hx3 : ys.all (isIdx gs.length) = true := by simpa using hx3
            obtain ⟨js, rfl, hj⟩ := gates_nat hx3
            have jl : js.length ≤ 60 := by rwa [List.length_map] at yl
            have en := nat_of_map js
            have lt : lotT gs.length (.tuple (js.map natD)) = ascT js := by
              simp only [lotT, hx3, en, Bool.true_and]
            have el : opB1 .list (.tuple (js.map natD)) = some (.new (js.map natD)) := rfl
            simp [el, sset_nats (js := js) (by omega)]
            rw [← nats_map, ne_intsL, nats_map, asc_sset]
            simp
            refine wpI_of (fun ha => ?_) fun ha => ?_
            · simp at ha
              simp [stkT, lt, ha]
            · simp at ha
              simp [S_due_3]
              refine ⟨small_of (by omega) (by omega), ?_⟩
              refine out_comp (m := .sh (.tuple (js.map natD))) (js := js) (by simp) (.inl rfl) rfl gl (by decide) (by simp) ?_
              simp [S_due_4]
              refine call_ret (ds := [webD r gs bars, .tuple (ks.map .int), .list ((outT gs.length js).map natD)]) rfl (by simp) (table_specC (k := k + 1) B.table B.parts S outT_lt) fun m e => ?_
              subst e
              simp [S_due_5]
              refine wp_pure (fun d => if (fun g => nearL (labW mnT gs bars r (outT gs.length js)) bars ks (gAt gs g) g (hostL ks.length (owAt os g))) (nat_of d) then some (.int 1) else none) rfl (by rw [List.length_map]; exact Nat.le_trans jl (by decide)) (fun x hx => ?_) ?_
              · obtain ⟨g, hg, rfl⟩ := List.mem_map.mp hx
                have lg := hj g hg
                simp [wipeE, Tg.vars]
                refine call_ret (ds := [hopeD ks os, .int g]) rfl (by simp) (hosts_specC (k := k + 2) B.hosts wl (by rw [HP.ln]; exact lg)) fun m e => ?_
                subst e
                simp [natD]
                refine call_own5 rfl rfl (near_specC (k := k + 2) B.near S (F := labW mnT gs bars r (outT gs.length js)) (fun w => labW_len' _ _ _ _ _) (gAt_get lg) (HP.at lg) (.inr rfl)) ?_
                simp [truth]
                refine wpI_of (fun h => ?_) fun h => ?_
                · simp [h, nat_of, wipeE]
                · simp [h, nat_of, wipeE]
              · have e := filter_any (fun g => nearL (labW mnT gs bars r (outT gs.length js)) bars ks (gAt gs g) g (hostL ks.length (owAt os g))) (.int 1) js
                rw [List.filterMap_map] at e
                have e2 := clos_eq S HP hj
                unfold closL at e2
                simp [e]
                simp [stkT, lt, ha, en, ← e2]
end MI
namespace MI
open PySem
variable {prog : List Fd} {fuel : Nat}
theorem lshut_specC {k f : Nat} (hf : prog[f]? = some S_shut) {r : Int} {gs : List Gt} {bars bars' : List D} {b : Nat} (hl : bars.length ≤ 900) (e : ssetL (bars ++ five b) = some (.new bars')) :
    Ret (run prog fuel (k + 1) f ([webD r gs bars, .int b].map .sh)) (fun m fin => m = .sh (webD r gs bars') ∧ fin = [webD r gs bars, .int b].map .sh) := by
  refine ret_run (fd := S_shut) hf rfl (Nat.le_of_ble_eq_true rfl) rfl ?_
  have el : opB1 .list (.tuple bars) = some (.new bars) := rfl
  simp [S_shut, el]
  refine ⟨rfl, ?_⟩
  have e5 : (rngD 0 5 1) = (List.range 5).map natD := rng_nat 5
  rw [e5]
  refine wp_pure (fun d => some (.tuple [d, .int b])) rfl (by decide) (fun x hx => ?_) ?_
  · simp [wipeE, Tg.vars]
  · simp
    have l5 : (five b).length = 5 := by simp [five]
    have ef : List.filterMap ((fun d => some (PyData.tuple [d, PyData.int b])) ∘ natD) (List.range 5) = five b := rfl
    rw [ef]
    refine ⟨by omega, ?_⟩
    simp [sset_l, e]
    rfl
theorem sorted_any (xs : List Int) (hl : xs.length ≤ 1000) : ∃ ys, opB1 .sorted (.list (xs.map PyData.int)) = some (.new ys) ∧ ys.length = xs.length ∧ ∀ y ∈ ys, y ∈ xs.map PyData.int := by
  have h1 : okOrd (xs.map PyData.int) = true := by
    unfold okOrd
    rw [ints_alike, (ints_plain' xs).1, (ints_plain' xs).2]
    rfl
  have h2 : okSort (xs.map PyData.int) = true := by
    unfold okSort
    rw [Bool.or_eq_true]
    right
    simp
  have h3 : (xs.map PyData.int).length ≤ Lim := by rw [List.length_map]; show xs.length ≤ 16777216; omega
  have pm : (sortD (xs.map PyData.int)).Perm (xs.map PyData.int) := List.mergeSort_perm _ _
  refine ⟨sortD (xs.map PyData.int), ?_, by rw [pm.length_eq, List.length_map], fun y hy => pm.mem_iff.mp hy⟩
  show gd (okOrd (xs.map PyData.int) && okSort (xs.map PyData.int) && decide ((xs.map PyData.int).length ≤ Lim)) (R.new (sortD (xs.map PyData.int))) = _
  rw [h1, h2, decide_eq_true h3]
  rfl
/-- a thing that is asked -/
structure Thq (v : D) : Prop where
  an : An false 300 6 v
  ln : ∀ xs, v = .tuple xs → xs.length ≤ 60
theorem thq_tup {xs : List D} (hx : ∀ x ∈ xs, An false 3 1 x) (hl : xs.length ≤ 60) : Thq (.tuple xs) := ⟨(An_tup hx hl).mono (by decide) (by decide), fun ys e => by cases e; exact hl⟩
theorem thq_else {v : D} (h : An false 300 6 v) (n : ∀ xs, v ≠ .tuple xs) : Thq v := ⟨h, fun xs e => absurd e (n xs)⟩
theorem value_specC {k f idr il ip ih inr it : Nat} (hf : prog[f]? = some (S_value idr il)) (hd : prog[idr]? = some B_draw) (hp : prog[ip]? = some C_parts) (hlo : prog[il]? = some (C_loose ih inr it)) (hho : prog[ih]? = some C_hosts) (hn : prog[inr]? = some C_is_near) (ht : prog[it]? = some (C_table ip)) (cells : List Int) {at_ g : Int} (h3 : 0 ≤ at_) (h4 : at_ + 200 < 1000000) (h5 : 0 ≤ g)
    {gs : List Gt} {bars : List D} {r : Nat} {ks : List Int} (S : Scene gs bars r ks) (gl : gs.length ≤ 24) {os : List Ow} (HP : Hope ks.length gs.length os) (bolt : Option Nat) :
    Ret (run prog fuel (k + 4) f (.ol true (pen cells at_ g) :: [webD r gs bars, hopeD ks os, ownD bolt].map .sh)) (PenQ cells at_ 60 (fun m => ∃ d, m = .sh d ∧ Thq d) ([webD r gs bars, hopeD ks os, ownD bolt].map .sh)) := by
  refine ret_run (fd := S_value idr il) hf rfl (Nat.le_of_ble_eq_true rfl) rfl ?_
  simp [S_value]
  refine w_drawB hd rfl (by omega) (by omega) h3 (by omega) h5 fun v0 a0 g0 u1 u2 u3 u4 u5 => ?_
  obtain ⟨gone, eg⟩ : ∃ gone : Option Nat, atD [PyData.none, ownD bolt] v0 = some (ownD gone) := by
    have : v0 = 0 ∨ v0 = 1 := by omega
    rcases this with rfl | rfl
    · exact ⟨none, rfl⟩
    · exact ⟨bolt, rfl⟩
  simp [eg]
  simp [S_value_1]
  refine call_ret (ds := [webD r gs bars, hopeD ks os, ownD gone]) rfl (by simp) (loose_specC (k := k) hlo hho hn ht hp S gl HP gone) fun m e => ?_
  obtain ⟨fs, ef⟩ := ssetI_nats (looseT gs bars r ks os gone gs.length [])
  rw [ef, nats_map] at e
  subst e
  clear ef
  simp
  simp [S_value_2]
  refine ⟨small_of (by omega) (by omega), ?_⟩
  refine out_comp (m := .ol false (fs.map natD)) (js := fs) (by simp) (.inr (.inr ⟨_, rfl⟩)) rfl (by omega) (by decide) (by simp) ?_
  have lt := outT_lt (n := gs.length) (js := fs)
  have ll : (outT gs.length fs).length ≤ gs.length := by
    have := List.length_filter_le (fun g => !decide (g ∈ fs)) (List.range gs.length)
    rwa [List.length_range] at this
  generalize outT gs.length fs = lot at lt ll
  have nats_an : ∀ x ∈ lot.map natD, An false 3 1 x := fun x hx => by
    obtain ⟨g, hg, rfl⟩ := List.mem_map.mp hx
    exact (An_nat false (by have := lt g hg; omega)).mono (by decide) (by decide)
  have nl : (lot.map natD).length ≤ 24 := by rw [List.length_map]; omega
  simp
  simp [S_value_3]
  refine w_drawB hd rfl (by omega) (by omega) (by omega) (by omega) u5 fun pick a1 g1 p1 p2 p3 p4 p5 => ?_
  simp
  simp [S_value_4]
  refine w_drawB hd rfl (by omega) (by omega) (by omega) (by omega) p5 fun at2 a2 g2 q1 q2 q3 q4 q5 => ?_
  simp
  simp [S_value_5]
  refine w_drawB hd rfl (by omega) (by omega) (by omega) (by omega) q5 fun v3 a3 g3 w1 w2 w3 w4 w5 => ?_
  simp
  refine w_drawB hd rfl (by omega) (by omega) (by omega) (by omega) w5 fun v4 a4 g4 y1 y2 y3 y4 y5 => ?_
  simp
  refine wpO_at y1 (by simpa using y2) fun part hpt => ?_
  have apt : An false 3 1 part := by
    simp only [List.mem_cons, List.not_mem_nil, or_false] at hpt
    rcases hpt with rfl | rfl | rfl | rfl | rfl | rfl | rfl | rfl | rfl
    · exact (An.int false (by omega)).mono (by decide) (by decide)
    · exact (An.int false (by decide)).mono (by decide) (by decide)
    · exact (AnB false true).mono (by decide) (by decide)
    · exact (str0 false).mono (by decide) (by decide)
    · exact (An.non false).mono (by decide) (by decide)
    · exact (An.tup (.cons (An.int false (i := 0) (by decide)) .nil)).mono (by decide) (by decide)
    · exact (An.lstF (.cons (An.int false (i := 0) (by decide)) .nil)).mono (by decide) (by decide)
    · exact AnE.mono (by decide) (by decide)
    · exact ⟨by decide +kernel, by decide +kernel, by decide +kernel, by decide +kernel⟩
  have hpk : pick = 0 ∨ pick = 1 ∨ pick = 2 ∨ pick = 3 ∨ pick = 4 ∨ pick = 5 ∨ pick = 6 ∨ pick = 7 ∨ 8 ≤ pick := by omega
  rcases hpk with rfl | rfl | rfl | rfl | rfl | rfl | rfl | rfl | hpk
  · simp [S_value_6]
    simp [S_value_6t]
    refine ⟨rfl, ?_⟩
    refine wp_compL (fun j acc ρ => ∃ a8 g8 x10, ρ = [some (.ol true (pen cells a8 g8)), some (.sh (webD r gs bars)), some (.sh (hopeD ks os)), some (.sh (ownD bolt)), some (.sh (ownD gone)), some (.ol false (fs.map natD)), some (.sh (.list (lot.map natD))), some (.sh (.int 0)), some (.sh (.int at2)), some (.sh part), x10] ∧ a4 ≤ a8 ∧ a8 ≤ a4 + j ∧ 0 ≤ g8 ∧ acc.length ≤ j ∧ ∀ x ∈ acc, An false 3 1 x)
      ⟨a4, g4, none, rfl, by omega, by omega, y5, Nat.le_refl _, fun _ h => by cases h⟩ ?_ ?_
    · rintro j d acc ρ hd' ⟨a8, g8, x10, rfl, c1, c2, c3, c4, c5⟩
      have hj : j < (lot.map natD).length := (List.getElem?_eq_some_iff.mp hd').1
      simp [wipeE, Tg.vars]
      refine w_drawB hd rfl (by omega) (by omega) (by omega) (by omega) c3 fun v6 a9 g9 b1 b2 b3 b4 b5 => ?_
      simp
      refine wpI_of (fun _ => ?_) fun _ => ?_
      · have l5 : acc.length < 16777216 := by omega
        exact ⟨l5, a9, g9, ⟨_, rfl⟩, by omega, by omega, b5, by simp; omega, app_all (P := fun x => An false 3 1 x) c5 fun y hy => by rw [List.mem_singleton.mp hy]; exact nats_an d (List.mem_of_getElem? hd')⟩
      · exact ⟨a9, g9, ⟨_, rfl⟩, by omega, by omega, b5, by omega, c5⟩
    · rintro acc ρ ⟨a8, g8, x10, rfl, c1, c2, c3, c4, c5⟩
      simp [backE, Tg.vars]
      exact penq (by omega) (by omega) c3 ⟨_, rfl, thq_tup c5 (by omega)⟩
  · simp [S_value_6]
    simp [S_value_7]
    exact penq (by omega) (by omega) y5 ⟨_, rfl, thq_tup (fun x hx => nats_an x (by simpa using hx)) (by simp; simp at nl; omega)⟩
  · simp [S_value_6]
    simp [S_value_7]
    simp [S_value_8]
    have lc1 := cut_len (lot.map natD) none (some at2)
    have lc2 := cut_len (lot.map natD) (some at2) none
    have big : ∀ x ∈ cutL (lot.map natD) none (some at2) ++ (part :: cutL (lot.map natD) (some at2) none), An false 3 1 x := app_all (cut_all nats_an) fun x hx => by
      rcases List.mem_cons.mp hx with rfl | hx
      · exact apt
      · exact cut_all nats_an x hx
    have bl : (cutL (lot.map natD) none (some at2) ++ (part :: cutL (lot.map natD) (some at2) none)).length ≤ 49 := by
      simp only [List.length_append, List.length_cons]
      omega
    simp [S_value_8t]
    exact ⟨by omega, by omega, penq (by omega) (by omega) y5 ⟨_, rfl, thq_tup big (by omega)⟩⟩
  · simp [S_value_6]
    simp [S_value_7]
    simp [S_value_8]
    simp [S_value_9]
    simp [S_value_9t]
    refine w_drawB hd rfl (by omega) (by omega) (by omega) (by omega) y5 fun v6 a8 g8 b1 b2 b3 b4 b5 => ?_
    obtain ⟨ys, e1, e2, e3⟩ := sorted_any (nats lot ++ [v6]) (by rw [List.length_append]; simp [nats]; simp at nl; omega)
    rw [List.map_append, nats_map] at e1 e3
    simp at e1
    simp [e1]
    refine ⟨by simp at nl; omega, penq (by omega) (by omega) b5 ⟨_, rfl, thq_tup (fun y hy => ?_) ?_⟩⟩
    · rcases List.mem_append.mp (e3 y hy) with h | h
      · exact nats_an y h
      · have h : y = .int v6 := by simpa using h
        subst h
        exact (An.int false (by omega)).mono (by decide) (by decide)
    · rw [e2, List.length_append]
      simp [nats]
      simp at nl
      omega
  · simp [S_value_6]
    simp [S_value_7]
    simp [S_value_8]
    simp [S_value_9]
    simp [S_value_10]
    have lc1 := cut_len (lot.map natD) none (some at2)
    have lc2 := cut_len (lot.map natD) (some (at2 + 1)) none
    simp [S_value_10t]
    exact ⟨by omega, penq (by omega) (by omega) y5 ⟨_, rfl, thq_tup (app_all (cut_all nats_an) (cut_all nats_an)) (by rw [List.length_append]; omega)⟩⟩
  · simp [S_value_6]
    simp [S_value_7]
    simp [S_value_8]
    simp [S_value_9]
    simp [S_value_10]
    simp [S_value_11]
    simp [S_value_11t]
    refine w_drawB hd rfl (by omega) (by omega) (by omega) (by omega) y5 fun v6 a8 g8 b1 b2 b3 b4 b5 => ?_
    simp
    refine wpO_at b1 (by simpa using b2) fun res hres => ?_
    have T : Thq res := by
      have at_ : An false 151 2 (.tuple (lot.map natD)) := (An_tup nats_an nl).mono (by decide) (by decide)
      simp only [List.mem_cons, List.not_mem_nil, or_false] at hres
      rcases hres with rfl | rfl | rfl | rfl | rfl | rfl | rfl | rfl
      · exact thq_else ((An.lstF (Ans_all nats_an)).mono (by omega) (by decide)) fun xs e => by cases e
      · exact thq_else ((An.non false).mono (by decide) (by decide)) fun xs e => by cases e
      · exact thq_else (AnE.mono (by decide) (by decide)) fun xs e => by cases e
      · exact thq_else (show An false 300 6 (.str (Str.ofString "")) from ⟨by decide +kernel, by decide +kernel, by decide +kernel, by decide +kernel⟩) fun xs e => by cases e
      · exact thq_else ((An.int false (by decide)).mono (by decide) (by decide)) fun xs e => by cases e
      · exact thq_else ((An.lstF .nil).mono (by decide) (by decide)) fun xs e => by cases e
      · exact ⟨(An.tup (.cons at_ .nil)).mono (by decide) (by decide), fun xs e => by cases e; show (1 : Nat) ≤ 60; decide⟩
      · exact thq_else ((AnB false true).mono (by decide) (by decide)) fun xs e => by cases e
    exact penq (by omega) (by omega) b5 ⟨_, rfl, T⟩
  · simp [S_value_6]
    simp [S_value_7]
    simp [S_value_8]
    simp [S_value_9]
    simp [S_value_10]
    simp [S_value_11]
    simp [S_value_12]
    have lc1 := cut_len (lot.map natD) (some (-1)) none
    simp [S_value_13]
    exact ⟨by simp at nl lc1; omega, penq (by omega) (by omega) y5 ⟨_, rfl, thq_tup (app_all nats_an (cut_all nats_an)) (by rw [List.length_append]; omega)⟩⟩
  · simp [S_value_6]
    simp [S_value_7]
    simp [S_value_8]
    simp [S_value_9]
    simp [S_value_10]
    simp [S_value_11]
    simp [S_value_12]
    simp [S_value_12t]
    refine wp_pure (fun d => some (if nat_of d < 2 then .bool (nat_of d != 0) else d)) rfl (Nat.le_trans nl (by decide)) (fun x hx => ?_) ?_
    · obtain ⟨g, hg, rfl⟩ := List.mem_map.mp hx
      have eb : opB1 .bool (natD g) = some (.val (.bool ((g : Int) != 0))) := rfl
      simp [wipeE, Tg.vars, natD]
      by_cases h2 : g < 2
      · have e3 : ((g : Int) < 2) := by omega
        simp only [natD] at eb
        simp [h2, e3, eb, nat_of, wipeE]
        by_cases h0 : g = 0
        · subst h0; rfl
        · have h1 : (g == 0) = false := by simpa using h0
          have h2 : ((g : Int) == 0) = false := by simp; omega
          simp [bne, h1, h2]
      · have e3 : ¬ ((g : Int) < 2) := by omega
        simp [h2, e3, nat_of, wipeE]
    · simp
      refine penq (by omega) (by omega) y5 ⟨_, rfl, thq_tup (fun x hx => ?_) (by have := List.length_filterMap_le (fun d => some (if nat_of d < 2 then PyData.bool (nat_of d != 0) else d)) (lot.map natD); simp at this nl ⊢; omega)⟩
      obtain ⟨g, hg, rfl⟩ := by simpa using hx
      split
      · exact (AnB false _).mono (by decide) (by decide)
      · exact nats_an _ (List.mem_map.mpr ⟨g, hg, rfl⟩)
  · have k0 : ¬ pick = 0 := by omega
    have k1 : ¬ pick = 1 := by omega
    have k2 : ¬ pick = 2 := by omega
    have k3 : ¬ pick = 3 := by omega
    have k4 : ¬ pick = 4 := by omega
    have k5 : ¬ pick = 5 := by omega
    have k6 : ¬ pick = 6 := by omega
    have k7 : ¬ pick = 7 := by omega
    simp [S_value_6, k0]
    simp [S_value_7, k1]
    simp [S_value_8, k2]
    simp [S_value_9, k3]
    simp [S_value_10, k4]
    simp [S_value_11, k5]
    simp [S_value_12, k7]
    simp [S_value_13, k6]
    exact penq (by omega) (by omega) y5 ⟨_, rfl, thq_tup nats_an (by omega)⟩
end MI
namespace Q
open MI PySem
def f_is_integer : Fd := ⟨1, 1, [.ret (.and (.isa (.var 0) [.int] false) (.not (.isa (.var 0) [.bool] false)))]⟩
def f_is_between : Fd := ⟨3, 3, [.ret (.and (.call 0 [.var 0] [true] [.e 0]) (.chain .le .le (.var 1) (.var 0) (.var 2)))]⟩
def f_may_pass : Fd := ⟨3, 3, [.ret (.cmp .notin (.tup [.var 1, .var 2]) (.idx (.var 0) (.int 2)))]⟩
def f_with_bars : Fd := ⟨2, 2, [.ret (.tup [.idx (.var 0) (.int 0), .idx (.var 0) (.int 1), .bi1 .tuple (.sset (.bin .add (.idx (.var 0) (.int 2)) (.var 1)))])]⟩
def f_barred_for_all : Fd := ⟨2, 4, .asg 2 (.bi1 .tuple (.comp (.tup [.var 3, .var 1]) (.name 3) (.rng [.bin .add (.glo "LAST_WALKER" (.int (4))) (.int 1)]) none)) :: [.ret (.callS 3 [.var 0] (some (.var 2)) [true] 1)]⟩
def f_ends : Fd := ⟨2, 2, [.ret (.sl (.idx (.idx (.var 0) (.int 1)) (.var 1)) none (some (.int 2)))]⟩
def f_first_labels : Fd := ⟨2, 3, [.ret (.comp (.lit (.rng [.idx (.var 0) (.int 0)]) false) (.name 2) (.rng [.var 1]) none)]⟩
def f_merged : Fd := ⟨3, 4, [.ret (.comp (.ite (.cmp .eq (.var 3) (.idx (.var 0) (.var 2))) (.idx (.var 0) (.var 1)) (.var 3)) (.name 3) (.seq (.var 0)) none)]⟩
def f_labels_behind_1 : List Sx := [.ret (.comp (.ite (.call 2 [.var 0, .var 5, .var 2] [true, false, false] [.e 0, .e 1, .e 2]) (.call 7 [.var 6, .var 3, .var 4] [false, true, true] [.e 0, .e 1, .e 2]) (.var 6)) (.tup [.name 5, .name 6]) (.enum (.var 1)) none)]
def f_labels_behind : Fd := ⟨3, 7, .unp [3, 4] (.call 5 [.var 0, .var 2] [true, true] [.e 0, .e 1]) :: f_labels_behind_1⟩
def f_labels_by_1 : List Sx := .for (.name 4) (.seq (.var 2)) [.asg 3 (.call 8 [.var 0, .var 3, .var 4] [true, false, false] [.e 0, .e 1, .e 2])] :: [.ret (.var 3)]
def f_labels_by : Fd := ⟨3, 5, .asg 3 (.call 6 [.var 0, .var 1] [true, false] [.e 0, .e 1]) :: f_labels_by_1⟩
def f_is_near_1 : List Sx := [.ret (.bi1 .any (.comp (.cmp .isin (.idx (.idx (.var 1) (.var 7)) (.idx (.var 2) (.var 7))) (.tup [.idx (.idx (.var 1) (.var 7)) (.var 5), .idx (.idx (.var 1) (.var 7)) (.var 6)])) (.name 7) (.seq (.var 4)) none))]
def f_is_near : Fd := ⟨5, 8, .unp [5, 6] (.call 5 [.var 0, .var 3] [true, true] [.e 0, .e 1]) :: f_is_near_1⟩
def f_hosts_of : Fd := ⟨3, 3, [.ret (.ite (.or (.cmp .isN (.var 2) (.non)) (.not (.call 2 [.var 0, .var 2, .var 1] [true, false, false] [.e 0, .e 1, .e 2]))) (.tup []) (.tup [.var 2]))]⟩
def f_hosts_by : Fd := ⟨2, 4, [.ret (.comp (.call 11 [.var 0, .var 2, .var 3] [true, false, false] [.e 0, .e 1, .e 2]) (.tup [.name 2, .name 3]) (.enum (.idx (.var 1) (.int 1))) none)]⟩
def f_shut : Fd := ⟨2, 2, [.ret (.ite (.cmp .isN (.var 1) (.non)) (.var 0) (.call 4 [.var 0, .var 1] [true, false] [.e 0, .e 1]))]⟩
def f_are_gates : Fd := ⟨2, 3, [.ret (.and (.isa (.var 1) [.tuple] false) (.bi1 .all (.comp (.call 1 [.var 2, .int 0, .bin .sub (.bi1 .len (.idx (.var 0) (.int 1))) (.int 1)] [true, true, true] [.e 0, .e 1, .e 2]) (.name 2) (.seq (.var 1)) none)))]⟩
def f_is_lot : Fd := ⟨2, 4, [.ret (.and (.call 14 [.var 0, .var 1] [true, false] [.e 0, .e 1]) (.bi1 .all (.comp (.cmp .lt (.var 2) (.var 3)) (.tup [.name 2, .name 3]) (.zip (.var 1) (.sl (.var 1) (some (.int 1)) none)) none)))]⟩
def f_outside_of : Fd := ⟨2, 3, [.ret (.comp (.var 2) (.name 2) (.rng [.bi1 .len (.idx (.var 0) (.int 1))]) (some (.cmp .notin (.var 2) (.var 1))))]⟩
def f_is_closed_1 : List Sx := [.ret (.not (.bi1 .any (.comp (.call 10 [.var 0, .var 4, .var 1, .var 5, .idx (.var 2) (.var 5)] [true, true, true, true, false] [.e 0, .e 1, .e 2, .e 3, .e 4]) (.name 5) (.seq (.var 3)) none)))]
def f_is_closed : Fd := ⟨4, 6, .asg 4 (.call 9 [.var 0, .bi1 .len (.var 1), .call 16 [.var 0, .var 3] [true, true] [.e 0, .e 1]] [true, false, false] [.e 0, .e 1, .e 2]) :: f_is_closed_1⟩
def f_is_stuck_1 : List Sx := [.ret (.and (.call 15 [.var 0, .var 2] [true, false] [.e 0, .e 1]) (.call 17 [.var 0, .idx (.var 1) (.int 0), .call 12 [.var 0, .var 1] [true, true] [.e 0, .e 1], .var 2] [true, true, true, false] [.e 0, .e 1, .e 2, .e 3]))]
def f_is_stuck : Fd := ⟨4, 4, .asg 0 (.call 13 [.var 0, .var 3] [false, false] [.e 0, .e 1]) :: f_is_stuck_1⟩
def f_law_pen : Fd := ⟨1, 1, [.ret (.lst [.bi1 .list (.sl (.var 0) none (some (.int 63))), .int 0, .int 0])]⟩
def f_law_draw_0t_1 : List Sx := .setI 0 (.int 2) (.bin .fdiv (.idx (.var 0) (.int 2)) (.var 1)) :: [.ret (.var 5)]
def f_law_draw_0t : List Sx := .asg 5 (.bin .mod (.idx (.var 0) (.int 2)) (.var 1)) :: f_law_draw_0t_1
def f_law_draw_5t_1 : List Sx := .setI 0 (.int 2) (.bin .fdiv (.var 6) (.var 1)) :: [.ret (.bin .mod (.var 6) (.var 1))]
def f_law_draw_5t : List Sx := .asg 6 (.bin .add (.bin .mul (.int 2) (.bi1 .abs (.var 3))) (.bi1 .int (.cmp .lt (.var 3) (.int 0)))) :: f_law_draw_5t_1
def f_law_draw_7 : List Sx := .asg 4 (.bin .mod (.bin .pow (.bin .add (.bin .mul (.var 4) (.bin .add (.bin .mul (.int 2) (.var 2)) (.int 9))) (.int 91193)) (.int 3)) (.int 2147483543)) :: [.ret (.bin .mod (.bin .fdiv (.var 4) (.int 16)) (.var 1))]
def f_law_draw_6 : List Sx := .asg 4 (.bin .mod (.bin .pow (.bin .add (.bin .add (.bin .mod (.var 3) (.int 2147483587)) (.bin .mul (.int 60013) (.var 2))) (.int 29)) (.int 3)) (.int 2147483629)) :: f_law_draw_7
def f_law_draw_5 : List Sx := .ite (.and (.cmp .lt (.var 2) (.bi1 .len (.idx (.var 0) (.int 0)))) (.cmp .ge (.bi1 .abs (.var 3)) (.bin .pow (.int 10) (.int 18)))) f_law_draw_5t [] :: f_law_draw_6
def f_law_draw_4 : List Sx := .ite (.cmp .ne (.idx (.var 0) (.int 0)) (.lst [])) [.asg 3 (.idx (.idx (.var 0) (.int 0)) (.bin .mod (.var 2) (.bi1 .len (.idx (.var 0) (.int 0)))))] [] :: f_law_draw_5
def f_law_draw_3 : List Sx := .asg 3 (.bin .add (.bin .mul (.int 70121) (.var 2)) (.int 53)) :: f_law_draw_4
def f_law_draw_2 : List Sx := .setI 0 (.int 1) (.bin .add (.var 2) (.int 1)) :: f_law_draw_3
def f_law_draw_1 : List Sx := .asg 2 (.idx (.var 0) (.int 1)) :: f_law_draw_2
def f_law_draw : Fd := ⟨2, 7, .ite (.cmp .gt (.idx (.var 0) (.int 2)) (.int 0)) f_law_draw_0t [] :: f_law_draw_1⟩
def f_law_ends_2t : List Sx := .asg 4 (.bin .mod (.var 2) (.bin .sub (.var 3) (.int 1))) :: [.asg 5 (.bin .add (.var 4) (.int 1))]
def f_law_ends_3t : List Sx := .asg 4 (.bin .mod (.var 2) (.var 3)) :: [.asg 5 (.bin .mod (.bin .add (.var 2) (.int 1)) (.var 3))]
def f_law_ends_4t : List Sx := [.asg 5 (.bin .mod (.bin .add (.var 4) (.idx (.lst [.int 2, .int 1]) (.bi1 .int (.cmp .eq (.var 3) (.int 2))))) (.var 3))]
def f_law_ends_5t : List Sx := .asg 4 (.idx (.lst [.int 0, .bin .sub (.var 3) (.int 2)]) (.call 20 [.var 0, .int 2] [true, true] [.e 0, .e 1])) :: [.asg 5 (.bin .add (.var 4) (.int 1))]
def f_law_ends_6t : List Sx := [.asg 5 (.bin .mod (.bin .add (.bin .add (.var 4) (.int 1)) (.call 20 [.var 0, .bin .sub (.var 3) (.int 1)] [true, true] [.e 0, .e 1])) (.var 3))]
def f_law_ends_7 : List Sx := [.ret (.tup [.bi2 .min (.var 4) (.var 5), .bi2 .max (.var 4) (.var 5)])]
def f_law_ends_6 : List Sx := .ite (.cmp .gt (.var 1) (.int 4)) f_law_ends_6t [] :: f_law_ends_7
def f_law_ends_5 : List Sx := .ite (.cmp .eq (.var 1) (.int 4)) f_law_ends_5t [] :: f_law_ends_6
def f_law_ends_4 : List Sx := .ite (.cmp .eq (.var 1) (.int 3)) f_law_ends_4t [] :: f_law_ends_5
def f_law_ends_3 : List Sx := .ite (.cmp .eq (.var 1) (.int 1)) f_law_ends_3t [] :: f_law_ends_4
def f_law_ends_2 : List Sx := .ite (.cmp .eq (.var 1) (.int 0)) f_law_ends_2t [] :: f_law_ends_3
def f_law_ends_1 : List Sx := .asg 5 (.bin .add (.int 1) (.bin .mod (.var 2) (.bin .sub (.var 3) (.int 1)))) :: f_law_ends_2
def f_law_ends : Fd := ⟨4, 6, .asg 4 (.ite (.or (.cmp .eq (.var 1) (.int 3)) (.cmp .gt (.var 1) (.int 4))) (.call 20 [.var 0, .var 3] [true, true] [.e 0, .e 1]) (.int 0)) :: f_law_ends_1⟩
def f_law_price_2 : List Sx := [.ret (.ite (.cmp .eq (.var 1) (.int 1)) (.bin .sub (.bin .pow (.int 10) (.int 9)) (.call 20 [.var 0, .int 3] [true, true] [.e 0, .e 1])) (.bin .add (.int 1) (.call 20 [.var 0, .int 1000] [true, true] [.e 0, .e 1])))]
def f_law_price_1 : List Sx := .ite (.cmp .eq (.var 1) (.int 0)) [.ret (.bin .add (.int 1) (.call 20 [.var 0, .int 9] [true, true] [.e 0, .e 1]))] [] :: f_law_price_2
def f_law_price : Fd := ⟨1, 2, .asg 1 (.call 20 [.var 0, .int 3] [true, true] [.e 0, .e 1]) :: f_law_price_1⟩
def f_law_bars_2t : List Sx := [.asg 3 (.comp (.tup [.call 20 [.var 0, .int 5] [true, true] [.e 0, .e 1], .call 20 [.var 0, .var 1] [true, true] [.e 0, .e 1]]) (.name 5) (.rng [.bin .add (.int 1) (.call 20 [.var 0, .int 6] [true, true] [.e 0, .e 1])]) none)]
def f_law_bars_3t_1 : List Sx := [.asg 3 (.comp (.tup [.var 4, .var 6]) (.name 6) (.rng [.var 1]) none)]
def f_law_bars_3t : List Sx := .asg 4 (.call 20 [.var 0, .int 5] [true, true] [.e 0, .e 1]) :: f_law_bars_3t_1
def f_law_bars_4t_1 : List Sx := [.asg 3 (.comp (.tup [.var 7, .var 4]) (.name 7) (.rng [.int 5]) none)]
def f_law_bars_4t : List Sx := .asg 4 (.call 20 [.var 0, .var 1] [true, true] [.e 0, .e 1]) :: f_law_bars_4t_1
def f_law_bars_4 : List Sx := .ite (.and (.cmp .gt (.var 1) (.int 0)) (.cmp .eq (.var 2) (.int 4))) f_law_bars_4t [] :: [.ret (.bi1 .tuple (.sset (.var 3)))]
def f_law_bars_3 : List Sx := .ite (.and (.cmp .gt (.var 1) (.int 0)) (.cmp .eq (.var 2) (.int 3))) f_law_bars_3t [] :: f_law_bars_4
def f_law_bars_2 : List Sx := .ite (.and (.cmp .gt (.var 1) (.int 0)) (.cmp .isin (.var 2) (.tup [.int 1, .int 2]))) f_law_bars_2t [] :: f_law_bars_3
def f_law_bars_1 : List Sx := .asg 3 (.lst []) :: f_law_bars_2
def f_law_bars : Fd := ⟨2, 8, .asg 2 (.call 20 [.var 0, .int 5] [true, true] [.e 0, .e 1]) :: f_law_bars_1⟩
def f_law_web_3b_0t_1 : List Sx := [.expr (.mu .append 5 [.tup [.var 8, .var 9, .call 22 [.var 0] [true] [.e 0]]])]
def f_law_web_3b_0t : List Sx := .unp [8, 9] (.call 21 [.var 0, .var 4, .var 6, .var 3] [true, true, true, true] [.e 0, .e 1, .e 2, .e 3]) :: f_law_web_3b_0t_1
def f_law_web_3b : List Sx := [.ite (.cmp .gt (.var 3) (.int 1)) f_law_web_3b_0t []]
def f_law_web_5 : List Sx := [.ret (.tup [.var 3, .var 7, .call 23 [.var 0, .bi1 .len (.var 7)] [true, false] [.e 0, .e 1]])]
def f_law_web_4 : List Sx := .asg 7 (.bi1 .tuple (.comp (.mu .popAt 5 [.call 20 [.var 0, .bi1 .len (.var 5)] [true, true] [.e 0, .e 1]]) (.name 6) (.rng [.bi1 .len (.var 5)]) none)) :: f_law_web_5
def f_law_web_3 : List Sx := .for (.name 6) (.rng [.call 20 [.var 0, .bin .add (.var 2) (.int 1)] [true, true] [.e 0, .e 1]]) f_law_web_3b :: f_law_web_4
def f_law_web_2 : List Sx := .asg 5 (.lst []) :: f_law_web_3
def f_law_web_1 : List Sx := .asg 4 (.call 20 [.var 0, .int 6] [true, true] [.e 0, .e 1]) :: f_law_web_2
def f_law_web : Fd := ⟨3, 10, .asg 3 (.bin .add (.int 1) (.call 20 [.var 0, .var 1] [true, true] [.e 0, .e 1])) :: f_law_web_1⟩
def f_law_possible_1b_1 : List Sx := [.asg 2 (.bin .add (.var 2) (.comp (.tup [.var 3, .var 6]) (.name 6) (.seq (.var 5)) (some (.cmp .notin (.tup [.var 3, .var 6]) (.idx (.var 0) (.int 2))))))]
def f_law_possible_1b : List Sx := .asg 5 (.comp (.var 6) (.tup [.name 6, .name 7]) (.enum (.idx (.var 0) (.int 1))) (some (.cmp .isin (.var 4) (.sl (.var 7) none (some (.int 2)))))) :: f_law_possible_1b_1
def f_law_possible_1 : List Sx := .for (.tup [.name 3, .name 4]) (.enum (.idx (.var 1) (.int 0))) f_law_possible_1b :: [.ret (.var 2)]
def f_law_possible : Fd := ⟨2, 8, .asg 2 (.lst []) :: f_law_possible_1⟩
def f_law_moved_2 : List Sx := .setI 5 (.var 3) (.var 2) :: [.ret (.tup [.bi1 .tuple (.var 4), .bi1 .tuple (.var 5)])]
def f_law_moved_1 : List Sx := .setI 4 (.var 2) (.bin .sub (.bin .add (.idx (.idx (.idx (.var 0) (.int 1)) (.var 3)) (.int 0)) (.idx (.idx (.idx (.var 0) (.int 1)) (.var 3)) (.int 1))) (.idx (.var 4) (.var 2))) :: f_law_moved_2
def f_law_moved : Fd := ⟨4, 6, .par 4 5 (.bi1 .list (.idx (.var 1) (.int 0))) (.bi1 .list (.idx (.var 1) (.int 1))) :: f_law_moved_1⟩
def f_law_played_0b_1t_1 : List Sx := [.asg 2 (.call 26 [.var 1, .var 2, .var 6, .var 7] [true, true, false, true] [.e 0, .e 1, .e 2, .e 3])]
def f_law_played_0b_1t : List Sx := .unp [6, 7] (.idx (.var 5) (.call 20 [.var 0, .bi1 .len (.var 5)] [true, true] [.e 0, .e 1])) :: f_law_played_0b_1t_1
def f_law_played_0b : List Sx := .asg 5 (.call 25 [.var 1, .var 2] [true, true] [.e 0, .e 1]) :: [.ite (.cmp .ne (.var 5) (.lst [])) f_law_played_0b_1t []]
def f_law_played : Fd := ⟨4, 8, .for (.name 4) (.rng [.call 20 [.var 0, .bin .add (.var 3) (.int 1)] [true, true] [.e 0, .e 1]]) f_law_played_0b :: [.ret (.var 2)]⟩
def f_law_standing_3t : List Sx := [.asg 5 (.bin .mul (.lst [.call 20 [.var 0, .var 2] [true, true] [.e 0, .e 1]]) (.bi1 .len (.var 5)))]
def f_law_standing_4t : List Sx := [.asg 5 (.comp (.idx (.bin .add (.lst [.non]) (.lit (.rng [.var 2]) false)) (.call 20 [.var 0, .bin .add (.var 2) (.int 1)] [true, true] [.e 0, .e 1])) (.name 7) (.seq (.idx (.var 1) (.int 1))) none)]
def f_law_standing_6 : List Sx := [.ret (.ite (.cmp .eq (.var 4) (.int 3)) (.call 27 [.var 0, .var 1, .var 6, .int 30] [true, true, false, true] [.e 0, .e 1, .e 2, .e 3]) (.var 6))]
def f_law_standing_5 : List Sx := .asg 6 (.tup [.var 3, .bi1 .tuple (.var 5)]) :: f_law_standing_6
def f_law_standing_4 : List Sx := .ite (.cmp .eq (.var 4) (.int 2)) f_law_standing_4t [] :: f_law_standing_5
def f_law_standing_3 : List Sx := .ite (.cmp .eq (.var 4) (.int 1)) f_law_standing_3t [] :: f_law_standing_4
def f_law_standing_2 : List Sx := .asg 5 (.comp (.non) (.name 7) (.seq (.idx (.var 1) (.int 1))) none) :: f_law_standing_3
def f_law_standing_1 : List Sx := .asg 4 (.call 20 [.var 0, .int 4] [true, true] [.e 0, .e 1]) :: f_law_standing_2
def f_law_standing : Fd := ⟨3, 9, .asg 3 (.bi1 .tuple (.comp (.call 20 [.var 0, .idx (.var 1) (.int 0)] [true, true] [.e 0, .e 1]) (.name 8) (.rng [.var 2]) none)) :: f_law_standing_1⟩
def f_law_parts_1b_0t_1 : List Sx := [.asg 3 (.comp (.ite (.cmp .isin (.var 7) (.var 5)) (.bi1 .min (.var 5)) (.var 7)) (.name 7) (.seq (.var 3)) none)]
def f_law_parts_1b_0t : List Sx := .asg 5 (.comp (.idx (.var 3) (.var 6)) (.name 6) (.seq (.sl (.idx (.idx (.var 0) (.int 1)) (.var 4)) none (some (.int 2)))) none) :: f_law_parts_1b_0t_1
def f_law_parts_1b : List Sx := [.ite (.cmp .notin (.tup [.var 1, .var 4]) (.idx (.var 0) (.int 2))) f_law_parts_1b_0t []]
def f_law_parts_1 : List Sx := .for (.name 4) (.seq (.var 2)) f_law_parts_1b :: [.ret (.var 3)]
def f_law_parts : Fd := ⟨3, 8, .asg 3 (.lit (.rng [.idx (.var 0) (.int 0)]) false) :: f_law_parts_1⟩
def f_law_is_near_1b_1 : List Sx := [.ite (.and (.cmp .notin (.tup [.var 5, .var 3]) (.idx (.var 0) (.int 2))) (.cmp .isin (.var 9) (.tup [.idx (.idx (.var 1) (.var 5)) (.var 6), .idx (.idx (.var 1) (.var 5)) (.var 7)]))) [.ret (.bl true)] []]
def f_law_is_near_1b : List Sx := .asg 9 (.idx (.idx (.var 1) (.var 5)) (.idx (.var 2) (.var 5))) :: f_law_is_near_1b_1
def f_law_is_near_1 : List Sx := .for (.name 5) (.seq (.var 4)) f_law_is_near_1b :: [.ret (.bl false)]
def f_law_is_near : Fd := ⟨5, 10, .unp [6, 7, 8] (.idx (.idx (.var 0) (.int 1)) (.var 3)) :: f_law_is_near_1⟩
def f_law_table : Fd := ⟨3, 4, [.ret (.comp (.call 29 [.var 0, .var 3, .var 2] [true, false, false] [.e 0, .e 1, .e 2]) (.name 3) (.rng [.bi1 .len (.var 1)]) none)]⟩
def f_law_hosts_2 : List Sx := [.ret (.ite (.cmp .eq (.var 2) (.str "any")) (.lit (.rng [.bi1 .len (.idx (.var 0) (.int 0))]) false) (.lst [.var 2]))]
def f_law_hosts_1 : List Sx := .ite (.cmp .isN (.var 2) (.non)) [.ret (.lst [])] [] :: f_law_hosts_2
def f_law_hosts : Fd := ⟨2, 3, .asg 2 (.idx (.idx (.var 0) (.int 1)) (.var 1)) :: f_law_hosts_1⟩
def f_law_loose_1b_3 : List Sx := .ite (.cmp .eq (.var 7) (.lst [])) [.ret (.bi1 .sorted (.var 3))] [] :: [.asg 3 (.bin .add (.var 3) (.var 7))]
def f_law_loose_1b_2 : List Sx := .asg 7 (.comp (.var 8) (.name 8) (.seq (.var 6)) (some (.call 30 [.var 0, .var 5, .idx (.var 1) (.int 0), .var 8, .call 32 [.var 1, .var 8] [true, true] [.e 0, .e 1]] [true, true, true, false, false] [.e 0, .e 1, .e 2, .e 3, .e 4]))) :: f_law_loose_1b_3
def f_law_loose_1b_1 : List Sx := .asg 6 (.comp (.var 8) (.name 8) (.rng [.bi1 .len (.idx (.var 0) (.int 1))]) (some (.and (.cmp .notin (.var 8) (.var 3)) (.cmp .ne (.var 8) (.var 2))))) :: f_law_loose_1b_2
def f_law_loose_1b : List Sx := .asg 5 (.call 31 [.var 0, .idx (.var 1) (.int 0), .var 3] [true, true, false] [.e 0, .e 1, .e 2]) :: f_law_loose_1b_1
def f_law_loose_1 : List Sx := .for (.name 4) (.rng [.bi1 .len (.idx (.var 0) (.int 1))]) f_law_loose_1b :: [.ret (.bi1 .sorted (.var 3))]
def f_law_loose : Fd := ⟨3, 9, .asg 3 (.lst []) :: f_law_loose_1⟩
def f_law_due_5 : List Sx := [.ret (.cmp .eq (.comp (.int 1) (.name 5) (.seq (.var 2)) (some (.call 30 [.var 0, .var 4, .idx (.var 1) (.int 0), .var 5, .call 32 [.var 1, .var 5] [true, true] [.e 0, .e 1]] [true, true, true, false, false] [.e 0, .e 1, .e 2, .e 3, .e 4]))) (.lst []))]
def f_law_due_4 : List Sx := .asg 4 (.call 31 [.var 0, .idx (.var 1) (.int 0), .var 3] [true, true, false] [.e 0, .e 1, .e 2]) :: f_law_due_5
def f_law_due_3 : List Sx := .asg 3 (.comp (.var 5) (.name 5) (.rng [.bi1 .len (.idx (.var 0) (.int 1))]) (some (.cmp .notin (.var 5) (.var 2)))) :: f_law_due_4
def f_law_due_2 : List Sx := .ite (.or (.cmp .ne (.comp (.var 5) (.name 5) (.seq (.var 2)) (some (.not (.chain .le .lt (.int 0) (.var 5) (.bi1 .len (.idx (.var 0) (.int 1))))))) (.lst [])) (.cmp .ne (.bi1 .list (.var 2)) (.sset (.var 2)))) [.ret (.bl false)] [] :: f_law_due_3
def f_law_due_1 : List Sx := .ite (.cmp .ne (.comp (.var 5) (.name 5) (.seq (.var 2)) (some (.or (.not (.isa (.var 5) [.int] false)) (.isa (.var 5) [.bool] false)))) (.lst [])) [.ret (.bl false)] [] :: f_law_due_2
def f_law_due : Fd := ⟨3, 6, .ite (.not (.isa (.var 2) [.tuple] false)) [.ret (.bl false)] [] :: f_law_due_1⟩
def f_law_shut : Fd := ⟨2, 3, [.ret (.tup [.idx (.var 0) (.int 0), .idx (.var 0) (.int 1), .bi1 .tuple (.sset (.bin .add (.bi1 .list (.idx (.var 0) (.int 2))) (.comp (.tup [.var 2, .var 1]) (.name 2) (.rng [.int 5]) none)))])]⟩
def f_law_value_6t : List Sx := [.ret (.bi1 .tuple (.comp (.var 10) (.name 10) (.seq (.var 6)) (some (.cmp .gt (.call 20 [.var 0, .int 3] [true, true] [.e 0, .e 1]) (.int 0)))))]
def f_law_value_8t : List Sx := [.ret (.bi1 .tuple (.bin .add (.bin .add (.sl (.var 6) none (some (.var 8))) (.lst [.var 9])) (.sl (.var 6) (some (.var 8)) none)))]
def f_law_value_9t : List Sx := [.ret (.bi1 .tuple (.bi1 .sorted (.bin .add (.var 6) (.lst [.call 20 [.var 0, .int 13] [true, true] [.e 0, .e 1]]))))]
def f_law_value_10t : List Sx := [.ret (.bi1 .tuple (.bin .add (.sl (.var 6) none (some (.var 8))) (.sl (.var 6) (some (.bin .add (.var 8) (.int 1))) none)))]
def f_law_value_11t : List Sx := [.ret (.idx (.lst [.var 6, .non, .dct [], .str "", .int 0, .lst [], .tup [.bi1 .tuple (.var 6)], .bl true]) (.call 20 [.var 0, .int 8] [true, true] [.e 0, .e 1]))]
def f_law_value_12t : List Sx := [.ret (.bi1 .tuple (.comp (.ite (.cmp .lt (.var 10) (.int 2)) (.bi1 .bool (.var 10)) (.var 10)) (.name 10) (.seq (.var 6)) none))]
def f_law_value_13 : List Sx := [.ret (.ite (.cmp .eq (.var 7) (.int 6)) (.bi1 .tuple (.bin .add (.var 6) (.sl (.var 6) (some (.neg (.int 1))) none))) (.bi1 .tuple (.var 6)))]
def f_law_value_12 : List Sx := .ite (.cmp .eq (.var 7) (.int 7)) f_law_value_12t [] :: f_law_value_13
def f_law_value_11 : List Sx := .ite (.cmp .eq (.var 7) (.int 5)) f_law_value_11t [] :: f_law_value_12
def f_law_value_10 : List Sx := .ite (.cmp .eq (.var 7) (.int 4)) f_law_value_10t [] :: f_law_value_11
def f_law_value_9 : List Sx := .ite (.cmp .eq (.var 7) (.int 3)) f_law_value_9t [] :: f_law_value_10
def f_law_value_8 : List Sx := .ite (.cmp .eq (.var 7) (.int 2)) f_law_value_8t [] :: f_law_value_9
def f_law_value_7 : List Sx := .ite (.cmp .eq (.var 7) (.int 1)) [.ret (.bi1 .tuple (.rev (.var 6)))] [] :: f_law_value_8
def f_law_value_6 : List Sx := .ite (.cmp .eq (.var 7) (.int 0)) f_law_value_6t [] :: f_law_value_7
def f_law_value_5 : List Sx := .asg 9 (.idx (.lst [.call 20 [.var 0, .bin .add (.bi1 .len (.idx (.var 1) (.int 1))) (.int 1)] [true, true] [.e 0, .e 1], .neg (.int 1), .bl true, .str "0", .non, .tup [.int 0], .lst [.int 0], .dct [], .bin .pow (.int 10) (.int 50)]) (.call 20 [.var 0, .int 9] [true, true] [.e 0, .e 1])) :: f_law_value_6
def f_law_value_4 : List Sx := .asg 8 (.call 20 [.var 0, .bin .add (.bi1 .len (.var 6)) (.int 1)] [true, true] [.e 0, .e 1]) :: f_law_value_5
def f_law_value_3 : List Sx := .asg 7 (.call 20 [.var 0, .int 10] [true, true] [.e 0, .e 1]) :: f_law_value_4
def f_law_value_2 : List Sx := .asg 6 (.comp (.var 10) (.name 10) (.rng [.bi1 .len (.idx (.var 1) (.int 1))]) (some (.cmp .notin (.var 10) (.var 5)))) :: f_law_value_3
def f_law_value_1 : List Sx := .asg 5 (.call 33 [.var 1, .var 2, .var 4] [true, true, true] [.e 0, .e 1, .e 2]) :: f_law_value_2
def f_law_value : Fd := ⟨4, 11, .asg 4 (.idx (.lst [.non, .var 3]) (.call 20 [.var 0, .int 2] [true, true] [.e 0, .e 1])) :: f_law_value_1⟩
def f_law_1b_3b_3t_1 : List Sx := [.ite (.cmp .ne (.bi1 .repr (.call 18 [.var 4, .var 5, .var 8, .var 6] [false, true, false, false] [.e 0, .e 1, .e 2, .e 3])) (.bi1 .repr (.var 10))) [.ret (.bl false)] []]
def f_law_1b_3b_3t : List Sx := .asg 10 (.call 34 [.call 35 [.var 4, .var 6] [true, false] [.e 0, .e 1], .var 5, .var 8] [true, true, false] [.e 0, .e 1, .e 2]) :: f_law_1b_3b_3t_1
def f_law_1b_3b_2 : List Sx := .ite (.or (.cmp .ne (.bi1 .repr (.call 18 [.var 4, .var 5, .var 8] [false, true, false] [.e 0, .e 1, .e 2, .d (.none)])) (.bi1 .repr (.call 34 [.var 4, .var 5, .var 8] [true, true, false] [.e 0, .e 1, .e 2]))) (.cmp .ne (.bi1 .repr (.var 8)) (.var 9))) [.ret (.bl false)] [] :: [.ite (.cmp .notN (.var 6) (.non)) f_law_1b_3b_3t []]
def f_law_1b_3b_1 : List Sx := .asg 9 (.bi1 .repr (.var 8)) :: f_law_1b_3b_2
def f_law_1b_3b : List Sx := .asg 8 (.call 36 [.var 1, .var 4, .var 5, .var 6] [true, true, true, false] [.e 0, .e 1, .e 2, .e 3]) :: f_law_1b_3b_1
def f_law_1b_2 : List Sx := .asg 6 (.ite (.cmp .eq (.idx (.var 4) (.int 1)) (.tup [])) (.non) (.call 20 [.var 1, .bi1 .len (.idx (.var 4) (.int 1))] [true, true] [.e 0, .e 1])) :: [.for (.name 7) (.rng [.int 6]) f_law_1b_3b]
def f_law_1b_1 : List Sx := .asg 5 (.call 28 [.var 1, .var 4, .bin .add (.int 1) (.call 20 [.var 1, .int 5] [true, true] [.e 0, .e 1])] [true, true, false] [.e 0, .e 1, .e 2]) :: f_law_1b_2
def f_law_1b : List Sx := .asg 4 (.call 24 [.var 1, .int 8, .int 12] [true, true, true] [.e 0, .e 1, .e 2]) :: f_law_1b_1
def f_law_4 : List Sx := [.ret (.cmp .isN (.call 18 [.tup [.int 0, .int 1], .tup [.tup [.int 0, .int 3], .tup [.int 0, .non, .int 1]], .var 3] [false, true, false] [.e 2, .e 1, .e 0, .d (.none)]) (.bl false))]
def f_law_3 : List Sx := .ite (.cmp .notN (.call 18 [.var 3, .tup [.tup [.int 0, .int 3], .tup [.int 0, .non, .int 1]], .tup [.int 1]] [false, true, false] [.e 0, .e 1, .e 2, .d (.none)]) (.bl true)) [.ret (.bl false)] [] :: f_law_4
def f_law_2 : List Sx := .asg 3 (.tup [.int 4, .tup [.tup [.int 0, .int 1, .int 5], .tup [.int 1, .int 2, .int 7], .tup [.int 2, .int 3, .int 4]], .tup []]) :: f_law_3
def f_law_1 : List Sx := .for (.name 2) (.rng [.int 3]) f_law_1b :: f_law_2
def f_law : Fd := ⟨1, 11, .asg 1 (.call 19 [.var 0] [true] [.e 0]) :: f_law_1⟩
def prog : List Fd := [f_is_integer, f_is_between, f_may_pass, f_with_bars, f_barred_for_all, f_ends, f_first_labels, f_merged, f_labels_behind, f_labels_by, f_is_near, f_hosts_of, f_hosts_by, f_shut, f_are_gates, f_is_lot, f_outside_of, f_is_closed, f_is_stuck, f_law_pen, f_law_draw, f_law_ends, f_law_price, f_law_bars, f_law_web, f_law_possible, f_law_moved, f_law_played, f_law_standing, f_law_parts, f_law_is_near, f_law_table, f_law_hosts, f_law_loose, f_law_due, f_law_shut, f_law_value, f_law]
end Q
namespace MI
open PySem
theorem lord_ex {w : Nat} {x : D} (h : LordB w x) : ∃ o : Ow, x = owD o ∧ (∀ v, o = some (some v) → v < w) ∧ o ≠ some none := by
  rcases h with rfl | ⟨a, rfl, a0, a1⟩
  · exact ⟨none, rfl, fun v e => (by cases e), fun e => by cases e⟩
  · refine ⟨some (some a.toNat), ?_, fun v e => ?_, fun e => by cases e⟩
    · simp only [owD]
      congr 1
      omega
    · cases e
      omega
theorem state_typed {r : Nat} {n w : Nat} {d : D} (h : StateB r n w d) : ∃ (ks : List Int) (os : List Ow), d = hopeD ks os ∧ ks.length = w ∧ (∀ a ∈ ks, 0 ≤ a ∧ a < r) ∧ Hope w n os ∧ Own os := by
  obtain ⟨hs, ls, rfl, e1, e2, hh, hl⟩ := h.ex
  obtain ⟨ks, rfl, pk⟩ := exL (f := PyData.int) (P := fun a => 0 ≤ a ∧ a < (r : Int)) fun x hx => by obtain ⟨a, e, p⟩ := hh x hx; exact ⟨a, e, p⟩
  obtain ⟨os, rfl, po⟩ := exL (f := owD) (P := fun o => (∀ v, o = some (some v) → v < w) ∧ o ≠ some none) fun x hx => lord_ex (hl x hx)
  rw [List.length_map] at e1 e2
  exact ⟨ks, os, rfl, e1, pk, ⟨e2, fun o ho => (po o ho).1⟩, fun o ho => (po o ho).2⟩
theorem gates_plain : ∀ gs : List Gt, PyData.plainAll (gs.map gateD) = true ∧ PyData.depthAll (gs.map gateD) ≤ 1
  | [] => ⟨rfl, Nat.zero_le _⟩
  | g :: gs => by
    obtain ⟨h1, h2⟩ := gates_plain gs
    simp only [List.map_cons, PyData.plainAll, PyData.depthAll, gateD, PyData.plain, PyData.depth, h1]
    exact ⟨rfl, by omega⟩
theorem gates_eq (gs : List Gt) : okEq (.tuple (gs.map gateD)) = true := by
  obtain ⟨h1, h2⟩ := gates_plain gs
  unfold okEq
  simp only [PyData.plain, PyData.depth, h1, Bool.true_and, decide_eq_true_eq]
  have : PyData.depthAll (gs.map gateD) ≤ 63 := Nat.le_trans h2 (by decide)
  exact decide_eq_true (Nat.succ_le_succ this)
end MI
namespace Q
open MI PySem
variable {fuel : Nat}
def lbI : LbIx := ⟨9, 6, 8, 7, 5, 2⟩
def stI : StIx := ⟨lbI, 13, 17, 10, 16, 15, 14, 1, 0, 12, 11⟩
def sdI : SdIx := ⟨32, 30, 31, 29⟩
theorem hasLb : HasLb prog lbI := ⟨rfl, rfl, rfl, rfl, rfl, rfl⟩
theorem hasSt : HasSt prog 18 stI := ⟨rfl, hasLb, rfl, rfl, rfl, rfl, rfl, rfl, rfl, rfl, rfl⟩
theorem hasSd : HasSd prog 34 sdI := ⟨rfl, rfl, rfl, rfl, rfl⟩
theorem path_scene {ks : List Int} (hk : ∀ a ∈ ks, 0 ≤ a ∧ a < (4 : Nat)) (wl : ks.length ≤ 5) : Scene [(0, 1, 5), (1, 2, 7), (2, 3, 4)] [] 4 ks := by
  refine ⟨by decide, by decide, by omega, rfl, fun g hg => ?_, hk⟩
  simp at hg
  rcases hg with rfl | rfl | rfl <;> exact ⟨by decide, by decide, by decide, by decide, by decide, by decide⟩
theorem law_ok (k : Nat) (ns : List Int) : Ret (run prog fuel (k + 7) 37 [.sc ns]) (fun m fin => m = .sh (.bool true)) := by
  refine ret_run (fd := f_law) rfl rfl (by decide) rfl ?_
  simp [f_law]
  refine w_penB rfl ?_
  simp [f_law_1]
  refine ⟨by decide, ?_⟩
  refine wp_forL (fun i ρ => ∃ a g x2 x4 x5 x6 x7 x8 x9 x10, ρ = [some (.sc ns), some (.ol false (pen (ns.take 63) a g)), x2, none, x4, x5, x6, x7, x8, x9, x10] ∧ 0 ≤ a ∧ a ≤ 1000 * i ∧ 0 ≤ g ∧ Lo x2 ∧ Lo x4 ∧ Lo x5 ∧ Lo x6 ∧ Lo x7 ∧ Lo x8 ∧ Lo x9 ∧ Lo x10)
    ⟨0, 0, none, none, none, none, none, none, none, none, rfl, by omega, by omega, by omega, .inl rfl, .inl rfl, .inl rfl, .inl rfl, .inl rfl, .inl rfl, .inl rfl, .inl rfl⟩ ?_ ?_
  · rintro i d ρ hd ⟨a, g, x2, x4, x5, x6, x7, x8, x9, x10, rfl, b1, b2, b3, y2, y4, y5, y6, y7, y8, y9, y10⟩
    obtain ⟨hi, rfl⟩ := rngD_get hd
    have hi4 : i < 3 := hi
    simp [y2.free, f_law_1b]
    refine call_pen (ds := [.int 8, .int 12]) (n := 150) rfl rfl (by simp) (web_specB (prog := prog) (fuel := fuel) (k := k + 3) (f := 24) (mr := 8) (mg := 12) (at_ := a) (g := g) (id := 20) (ie := 21) (ip := 22) (ib := 23) rfl rfl rfl rfl rfl (ns.take 63) b1 (by omega) b3 (by omega) (by omega) (by omega) (by omega)) fun m a1 g1 ⟨net, e1, W1⟩ u1 u2 u3 => ?_
    subst e1
    obtain ⟨r, gs, bars, en, r0, r1, gl, hg, hb, bl⟩ := web_typed W1
    subst en
    have gl : gs.length ≤ 12 := gl
    simp [y4.free, f_law_1b_1]
    refine w_drawB rfl rfl (by omega) (by omega) (by omega) (by omega) u3 fun v a2 g2 z1 z2 z3 z4 z5 => ?_
    simp
    obtain ⟨w, hw, w0, w1⟩ : ∃ w : Nat, (w : Int) = 1 + v ∧ 1 ≤ w ∧ w ≤ 5 := ⟨(1 + v).toNat, by omega, by omega, by omega⟩
    rw [← hw]
    refine call_pen (ds := [webD r gs bars, .int w]) (n := 60) rfl rfl (by simp) (standing_specB (prog := prog) (fuel := fuel) (k := k + 3) (f := 28) (idr := 20) (ipl := 27) (im := 26) (ip := 25) (at_ := a2) (g := g2) (r := r) (gates := gs.map gateD) (bars := bars) (w := w) rfl rfl rfl rfl rfl (ns.take 63) (by omega) (by omega) z5 (by omega) (by omega) (by rw [List.length_map]; omega) (fun x hx => by
      obtain ⟨g, hg', rfl⟩ := List.mem_map.mp hx
      exact ⟨g.1, g.2.1, g.2.2, rfl, hg g hg'⟩) (barsB_plain hb) w0 w1) fun m a3 g3 ⟨st, e2, S0⟩ s1 s2 s3 => ?_
    subst e2
    rw [List.length_map] at S0
    obtain ⟨ks, os, es, l1, hk, HL, ho⟩ := state_typed S0
    subst es
    have SC : Scene gs bars r ks := scene_of (by omega) (by omega) (by omega) hb hg hk
    have HP : Hope ks.length gs.length os := by rw [l1]; exact HL
    simp [y5.free, f_law_1b_2]
    rw [eq_tnil (gates_eq gs)]
    simp
    have goal : ∀ (bolt : Option Nat) (a4 g4 : Int) (Qf : Fl → MI.Env → Prop), (∀ b, bolt = some b → b < gs.length) → a3 ≤ a4 → a4 ≤ a3 + 1 → 0 ≤ g4 →
        (∀ a g x7 x8 x9 x10, 0 ≤ a → a ≤ a3 + 400 → 0 ≤ g → Lo x7 → Lo x8 → Lo x9 → Lo x10 → Qf .next [some (.sc ns), some (.ol false (pen (ns.take 63) a g)), some (.sh (.int i)), none, some (.sh (webD r gs bars)), some (.sh (hopeD ks os)), some (.sh (ownD bolt)), x7, x8, x9, x10]) →
        Wp (forL (forF ⟨MI.run prog fuel (k + 6), fuel⟩ (.name 7) f_law_1b_3b) (rngD 0 6 1) [some (.sc ns), some (.ol false (pen (ns.take 63) a4 g4)), some (.sh (.int i)), none, some (.sh (webD r gs bars)), some (.sh (hopeD ks os)), some (.sh (ownD bolt)), x7, x8, x9, x10]) Qf := by
      intro bolt a4 g4 Qf hbt c1 c2 c3 hQ
      refine wp_forL (fun j ρ => ∃ a g x7 x8 x9 x10, ρ = [some (.sc ns), some (.ol false (pen (ns.take 63) a g)), some (.sh (.int i)), none, some (.sh (webD r gs bars)), some (.sh (hopeD ks os)), some (.sh (ownD bolt)), x7, x8, x9, x10] ∧ a4 ≤ a ∧ a ≤ a4 + 60 * j ∧ 0 ≤ g ∧ Lo x7 ∧ Lo x8 ∧ Lo x9 ∧ Lo x10)
        ⟨a4, g4, x7, x8, x9, x10, rfl, by omega, by omega, c3, y7, y8, y9, y10⟩ ?_ ?_
      · rintro j d ρ hd ⟨a5, g5, x7, x8, x9, x10, rfl, c1, c2, c3, y7, y8, y9, y10⟩
        obtain ⟨hj, rfl⟩ := rngD_get hd
        have hj7 : j < 6 := hj
        simp [y7.free, f_law_1b_3b]
        refine call_pen (ds := [webD r gs bars, hopeD ks os, ownD bolt]) (n := 60) rfl rfl (by simp) (value_specC (prog := prog) (fuel := fuel) (k := k + 2) (f := 36) (idr := 20) (il := 33) (ip := 29) (ih := 32) (inr := 30) (it := 31) rfl rfl rfl rfl rfl rfl rfl (ns.take 63) (by omega) (by omega) c3 SC (by omega) HP bolt) fun m a6 g6 ⟨th, e4, T⟩ v1 v2 v3 => ?_
        subst e4
        have hrepr : reprD th = some (.val (.str th.shown)) := repr_one T.an (by decide) (by decide)
        generalize th.shown = told at hrepr
        have tl : ∀ xs, th = .tuple xs → xs.length ≤ 1000 := fun xs e => by have := T.ln xs e; omega
        simp [y8.free, f_law_1b_3b_1, hrepr]
        simp [y9.free, f_law_1b_3b_2]
        refine call_same ([webD r gs bars, hopeD ks os, th, .none].map .sh) (by simp [argsOf, R.arg]) (by simp [ownsOf]) (by simp [srcOk]) (stuck_specL (prog := prog) (fuel := fuel) (k := k) (i := 18) hasSt SC (by omega) HP ho tl (shut0_specL (ib := 4) rfl _)) fun m e => ?_
        subst e
        simp [repr_bl]
        refine call_sh (ds := [webD r gs bars, hopeD ks os, th]) rfl (by simp) (sdue_specC (prog := prog) (fuel := fuel) (k := k + 2) (i := 34) hasSd SC HP T.ln) ?_
        simp [repr_bl, hrepr]
        cases bolt with
        | none =>
          simp [ownD, isNone]
          exact ⟨a6, g6, _, _, _, _, rfl, by omega, by omega, v3, .sh _, .sh _, .sh _, y10⟩
        | some b =>
          have b1 := hbt b rfl
          obtain ⟨bars', eb, hb', bl'⟩ := shut_bars hb bl (by omega) b1
          have SC' : Scene gs bars' r ks := scene_of (by omega) (by omega) (by omega) hb' hg hk
          simp [ownD, isNone, f_law_1b_3b_3t]
          refine call_sh (ds := [webD r gs bars, .int b]) rfl (by simp) (lshut_specC (prog := prog) (fuel := fuel) (k := k + 5) (f := 35) rfl (by omega) eb) ?_
          simp
          refine call_sh (ds := [webD r gs bars', hopeD ks os, th]) rfl (by simp) (sdue_specC (prog := prog) (fuel := fuel) (k := k + 2) (i := 34) hasSd SC' HP T.ln) ?_
          simp [y10.free, f_law_1b_3b_3t_1]
          refine call_same ([webD r gs bars, hopeD ks os, th, .int b].map .sh) (by simp [argsOf, R.arg]) (by simp [ownsOf]) (by simp [srcOk]) (stuck_specL (prog := prog) (fuel := fuel) (k := k) (i := 18) hasSt SC' (by omega) HP ho tl (shut1_specL (k := k + 2) (ib := 4) (iw := 3) rfl rfl rfl (by omega) eb)) fun m e => ?_
          subst e
          simp [repr_bl]
          exact ⟨a6, g6, _, _, _, _, rfl, by omega, by omega, v3, .sh _, .sh _, .sh _, .sh _⟩
      · rintro ρ ⟨a5, g5, x7, x8, x9, x10, rfl, c1, c2, c3, y7, y8, y9, y10⟩
        have hm : (rngD 0 6 1).length = 6 := rfl
        rw [hm] at c2
        exact hQ a5 g5 _ _ _ _ (by omega) (by omega) c3 y7 y8 y9 y10
    refine wpI_of (fun he => ?_) fun he => ?_
    · refine ⟨y6.free _, by decide, goal none a3 g3 _ (fun b e => by cases e) (by omega) (by omega) s3 fun a g x7 x8 x9 x10 d1 d2 d3 d4 d5 d6 d7 => ?_⟩
      exact ⟨a, g, _, _, _, _, _, _, _, _, rfl, by omega, by omega, d3, .sh _, .sh _, .sh _, .sh _, d4, d5, d6, d7⟩
    · have lp : 0 < gs.length := by
        cases gs with
        | nil => cases he
        | cons a b => simp
      refine w_drawB rfl rfl (by omega) (by omega) (by omega) (by omega) s3 fun bt a4 g4 t1 t2 t3 t4 t5 => ?_
      obtain ⟨b, rfl⟩ : ∃ b : Nat, (b : Int) = bt := ⟨bt.toNat, by omega⟩
      simp [y6.free]
      refine ⟨by decide, goal (some b) a4 g4 _ (fun c e => by cases e; omega) (by omega) (by omega) t5 fun a g x7 x8 x9 x10 d1 d2 d3 d4 d5 d6 d7 => ?_⟩
      exact ⟨a, g, _, _, _, _, _, _, _, _, rfl, by omega, by omega, d3, .sh _, .sh _, .sh _, .sh _, d4, d5, d6, d7⟩
  · rintro ρ ⟨a, g, x2, x4, x5, x6, x7, x8, x9, x10, rfl, b1, b2, b3, y2, y4, y5, y6, y7, y8, y9, y10⟩
    have ok1 : ∀ x ∈ [(0 : Int), 3], 0 ≤ x ∧ x < (4 : Nat) := by decide
    have H1 : Hope 2 3 [some (some 0), none, some (some 1)] := ⟨rfl, fun o ho v e => by
      subst e
      simp at ho
      omega⟩
    have O1 : Own [some (some 0), none, some (some 1)] := fun o ho => by
      simp at ho
      rcases ho with rfl | rfl | rfl <;> exact fun e => by cases e
    simp [f_law_2]
    simp [f_law_3]
    refine call_same ([webD (4 : Nat) [(0, 1, 5), (1, 2, 7), (2, 3, 4)] [], hopeD [0, 3] [some (some 0), none, some (some 1)], .tuple [.int 1], .none].map .sh) rfl (by simp [ownsOf]) (by simp [srcOk]) (stuck_specL (prog := prog) (fuel := fuel) (k := k) (i := 18) hasSt (path_scene ok1 (by decide)) (by decide) H1 O1 (fun xs e => by cases e; decide) (shut0_specL (ib := 4) rfl _)) fun m e => ?_
    rw [show stkT [(0, 1, 5), (1, 2, 7), (2, 3, 4)] [] 4 [0, 3] [some (some 0), none, some (some 1)] (.tuple [.int 1]) = true by decide +kernel] at e
    subst e
    simp
    simp [f_law_4]
    refine call_same ([webD (4 : Nat) [(0, 1, 5), (1, 2, 7), (2, 3, 4)] [], hopeD [0, 3] [some (some 0), none, some (some 1)], .tuple [.int 0, .int 1], .none].map .sh) rfl (by simp [ownsOf]) (by simp [srcOk]) (stuck_specL (prog := prog) (fuel := fuel) (k := k) (i := 18) hasSt (path_scene ok1 (by decide)) (by decide) H1 O1 (fun xs e => by cases e; decide) (shut0_specL (ib := 4) rfl _)) fun m e => ?_
    rw [show stkT [(0, 1, 5), (1, 2, 7), (2, 3, 4)] [] 4 [0, 3] [some (some 0), none, some (some 1)] (.tuple [.int 0, .int 1]) = false by decide +kernel] at e
    subst e
    simp
end Q
namespace Q
open MI PySem PySem.Spec PyProof.Rows L2
def top (i : Nat) : Stmt := PySem.Challenge.pw_heelpence_k18_is_stuck.main.body.getD i (.Pass ⟨0, 0, 0, 0⟩)
def s_is_integer : Stmt := top 2
def d_is_integer : Df := ⟨"is_integer", ["value"], ["value"], defArgs s_is_integer, defBody s_is_integer, defScope s_is_integer, f_is_integer, [⟨1, [], [.e 0]⟩], [], [], false⟩
def s_is_between : Stmt := top 3
def d_is_between : Df := ⟨"is_between", ["value", "low", "high"], ["value", "low", "high"], defArgs s_is_between, defBody s_is_between, defScope s_is_between, f_is_between, [⟨3, [], [.e 0, .e 1, .e 2]⟩], [], [], false⟩
def s_may_pass : Stmt := top 4
def d_may_pass : Df := ⟨"may_pass", ["web", "walker", "gate"], ["web", "walker", "gate"], defArgs s_may_pass, defBody s_may_pass, defScope s_may_pass, f_may_pass, [⟨3, [], [.e 0, .e 1, .e 2]⟩], [], [], false⟩
def s_with_bars : Stmt := top 5
def d_with_bars : Df := ⟨"with_bars", ["web", "bars"], ["web", "bars"], defArgs s_with_bars, defBody s_with_bars, defScope s_with_bars, f_with_bars, [], [], [], true⟩
def s_barred_for_all : Stmt := top 6
def d_barred_for_all : Df := ⟨"barred_for_all", ["web", "gate", "bars", "walker"], ["web", "gate"], defArgs s_barred_for_all, defBody s_barred_for_all, defScope s_barred_for_all, f_barred_for_all, [⟨2, [], [.e 0, .e 1]⟩], [], [], false⟩
def s_ends : Stmt := top 7
def d_ends : Df := ⟨"ends", ["web", "gate"], ["web", "gate"], defArgs s_ends, defBody s_ends, defScope s_ends, f_ends, [⟨2, [], [.e 0, .e 1]⟩], [], [], false⟩
def s_first_labels : Stmt := top 9
def d_first_labels : Df := ⟨"first_labels", ["web", "walkers", "walker"], ["web", "walkers"], defArgs s_first_labels, defBody s_first_labels, defScope s_first_labels, f_first_labels, [⟨2, [], [.e 0, .e 1]⟩], [], [], false⟩
def s_merged : Stmt := top 10
def d_merged : Df := ⟨"merged", ["row", "first", "second", "number"], ["row", "first", "second"], defArgs s_merged, defBody s_merged, defScope s_merged, f_merged, [⟨3, [], [.e 0, .e 1, .e 2]⟩], [], [], false⟩
def s_labels_behind : Stmt := top 11
def d_labels_behind : Df := ⟨"labels_behind", ["web", "labels", "gate", "first", "second", "walker", "row"], ["web", "labels", "gate"], defArgs s_labels_behind, defBody s_labels_behind, defScope s_labels_behind, f_labels_behind, [⟨3, [], [.e 0, .e 1, .e 2]⟩], [], [], false⟩
def s_labels_by : Stmt := top 12
def d_labels_by : Df := ⟨"labels_by", ["web", "walkers", "gates", "labels", "gate"], ["web", "walkers", "gates"], defArgs s_labels_by, defBody s_labels_by, defScope s_labels_by, f_labels_by, [⟨3, [], [.e 0, .e 1, .e 2]⟩], [], [], false⟩
def s_is_near : Stmt := top 13
def d_is_near : Df := ⟨"is_near", ["web", "labels", "places", "gate", "hosts", "first", "second", "walker"], ["web", "labels", "places", "gate", "hosts"], defArgs s_is_near, defBody s_is_near, defScope s_is_near, f_is_near, [⟨5, [], [.e 0, .e 1, .e 2, .e 3, .e 4]⟩], [], [], false⟩
def s_hosts_of : Stmt := top 14
def d_hosts_of : Df := ⟨"hosts_of", ["web", "gate", "owner"], ["web", "gate", "owner"], defArgs s_hosts_of, defBody s_hosts_of, defScope s_hosts_of, f_hosts_of, [⟨3, [], [.e 0, .e 1, .e 2]⟩], [], [], false⟩
def s_hosts_by : Stmt := top 15
def d_hosts_by : Df := ⟨"hosts_by", ["web", "standing", "gate", "owner"], ["web", "standing"], defArgs s_hosts_by, defBody s_hosts_by, defScope s_hosts_by, f_hosts_by, [⟨2, [], [.e 0, .e 1]⟩], [], [], false⟩
def s_shut : Stmt := top 16
def d_shut : Df := ⟨"shut", ["web", "barred"], ["web", "barred"], defArgs s_shut, defBody s_shut, defScope s_shut, f_shut, [⟨2, [], [.e 0, .e 1]⟩], [], [], false⟩
def s_are_gates : Stmt := top 17
def d_are_gates : Df := ⟨"are_gates", ["web", "value", "gate"], ["web", "value"], defArgs s_are_gates, defBody s_are_gates, defScope s_are_gates, f_are_gates, [⟨2, [], [.e 0, .e 1]⟩], [], [], false⟩
def s_is_lot : Stmt := top 18
def d_is_lot : Df := ⟨"is_lot", ["web", "value", "gate", "later"], ["web", "value"], defArgs s_is_lot, defBody s_is_lot, defScope s_is_lot, f_is_lot, [⟨2, [], [.e 0, .e 1]⟩], [], [], false⟩
def s_outside_of : Stmt := top 19
def d_outside_of : Df := ⟨"outside_of", ["web", "lot", "gate"], ["web", "lot"], defArgs s_outside_of, defBody s_outside_of, defScope s_outside_of, f_outside_of, [⟨2, [], [.e 0, .e 1]⟩], [], [], false⟩
def s_is_closed : Stmt := top 20
def d_is_closed : Df := ⟨"is_closed", ["web", "places", "hosts", "lot", "labels", "gate"], ["web", "places", "hosts", "lot"], defArgs s_is_closed, defBody s_is_closed, defScope s_is_closed, f_is_closed, [⟨4, [], [.e 0, .e 1, .e 2, .e 3]⟩], [], [], false⟩
def s_is_stuck : Stmt := top 21
def d_is_stuck : Df := ⟨"is_stuck", ["web", "standing", "value", "barred"], ["web", "standing", "value", "barred"], defArgs s_is_stuck, defBody s_is_stuck, defScope s_is_stuck, f_is_stuck, [⟨0, ["value", "standing", "web"], [.e 2, .e 1, .e 0, .d (.none)]⟩, ⟨3, [], [.e 0, .e 1, .e 2, .d (.none)]⟩, ⟨3, ["barred"], [.e 0, .e 1, .e 2, .e 3]⟩], [], [("barred", .non)], false⟩
def s_law_pen : Stmt := top 23
def d_law_pen : Df := ⟨"_law_pen", ["_law_script"], ["_law_script"], defArgs s_law_pen, defBody s_law_pen, defScope s_law_pen, f_law_pen, [⟨1, [], [.e 0]⟩], [], [], false⟩
def s_law_draw : Stmt := top 24
def d_law_draw : Df := ⟨"_law_draw", ["_law_pen_here", "_law_bound", "_law_turn", "_law_cell", "_law_mixed", "_law_digit", "_law_great"], ["_law_pen_here", "_law_bound"], defArgs s_law_draw, defBody s_law_draw, defScope s_law_draw, f_law_draw, [⟨2, [], [.e 0, .e 1]⟩], [], [], false⟩
def s_law_ends : Stmt := top 25
def d_law_ends : Df := ⟨"_law_ends", ["_law_pen_here", "_law_kind", "_law_k", "_law_rooms", "_law_first", "_law_second"], ["_law_pen_here", "_law_kind", "_law_k", "_law_rooms"], defArgs s_law_ends, defBody s_law_ends, defScope s_law_ends, f_law_ends, [⟨4, [], [.e 0, .e 1, .e 2, .e 3]⟩], [], [], false⟩
def s_law_price : Stmt := top 26
def d_law_price : Df := ⟨"_law_price", ["_law_pen_here", "_law_pick"], ["_law_pen_here"], defArgs s_law_price, defBody s_law_price, defScope s_law_price, f_law_price, [⟨1, [], [.e 0]⟩], [], [], false⟩
def s_law_bars : Stmt := top 27
def d_law_bars : Df := ⟨"_law_bars", ["_law_pen_here", "_law_many", "_law_pick", "_law_some", "_law_one", "_law_k", "_law_gate", "_law_walker"], ["_law_pen_here", "_law_many"], defArgs s_law_bars, defBody s_law_bars, defScope s_law_bars, f_law_bars, [⟨2, [], [.e 0, .e 1]⟩], [], [], false⟩
def s_law_web : Stmt := top 28
def d_law_web : Df := ⟨"_law_web", ["_law_pen_here", "_law_most_rooms", "_law_most_gates", "_law_rooms", "_law_kind", "_law_rows", "_law_k", "_law_gates", "_law_first", "_law_second"], ["_law_pen_here", "_law_most_rooms", "_law_most_gates"], defArgs s_law_web, defBody s_law_web, defScope s_law_web, f_law_web, [⟨3, [], [.e 0, .e 1, .e 2]⟩], [], [], false⟩
def s_law_possible : Stmt := top 29
def d_law_possible : Df := ⟨"_law_possible", ["_law_net", "_law_state", "_law_found", "_law_walker", "_law_place", "_law_near", "_law_gate", "_law_row"], ["_law_net", "_law_state"], defArgs s_law_possible, defBody s_law_possible, defScope s_law_possible, f_law_possible, [⟨2, [], [.e 0, .e 1]⟩], [], [], false⟩
def s_law_moved : Stmt := top 30
def d_law_moved : Df := ⟨"_law_moved", ["_law_net", "_law_state", "_law_walker", "_law_gate", "_law_places", "_law_owners"], ["_law_net", "_law_state", "_law_walker", "_law_gate"], defArgs s_law_moved, defBody s_law_moved, defScope s_law_moved, f_law_moved, [⟨4, [], [.e 0, .e 1, .e 2, .e 3]⟩], [], [], false⟩
def s_law_played : Stmt := top 31
def d_law_played : Df := ⟨"_law_played", ["_law_pen_here", "_law_net", "_law_state", "_law_most", "_law_k", "_law_some", "_law_walker", "_law_gate"], ["_law_pen_here", "_law_net", "_law_state", "_law_most"], defArgs s_law_played, defBody s_law_played, defScope s_law_played, f_law_played, [⟨4, [], [.e 0, .e 1, .e 2, .e 3]⟩], [], [], false⟩
def s_law_standing : Stmt := top 32
def d_law_standing : Df := ⟨"_law_standing", ["_law_pen_here", "_law_net", "_law_walkers", "_law_places", "_law_kind", "_law_owners", "_law_state", "_law_row", "_law_walker"], ["_law_pen_here", "_law_net", "_law_walkers"], defArgs s_law_standing, defBody s_law_standing, defScope s_law_standing, f_law_standing, [⟨3, [], [.e 0, .e 1, .e 2]⟩], [], [], false⟩
def s_law_parts : Stmt := top 33
def d_law_parts : Df := ⟨"_law_parts", ["_law_net", "_law_walker", "_law_gates", "_law_parts_here", "_law_gate", "_law_both", "_law_end", "_law_part"], ["_law_net", "_law_walker", "_law_gates"], defArgs s_law_parts, defBody s_law_parts, defScope s_law_parts, f_law_parts, [⟨3, [], [.e 0, .e 1, .e 2]⟩], [], [], false⟩
def s_law_is_near : Stmt := top 34
def d_law_is_near : Df := ⟨"_law_is_near", ["_law_net", "_law_table_here", "_law_places", "_law_gate", "_law_walkers", "_law_walker", "_law_first", "_law_second", "_law_cost", "_law_here"], ["_law_net", "_law_table_here", "_law_places", "_law_gate", "_law_walkers"], defArgs s_law_is_near, defBody s_law_is_near, defScope s_law_is_near, f_law_is_near, [⟨5, [], [.e 0, .e 1, .e 2, .e 3, .e 4]⟩], [], [], false⟩
def s_law_table : Stmt := top 35
def d_law_table : Df := ⟨"_law_table", ["_law_net", "_law_places", "_law_gates", "_law_walker"], ["_law_net", "_law_places", "_law_gates"], defArgs s_law_table, defBody s_law_table, defScope s_law_table, f_law_table, [⟨3, [], [.e 0, .e 1, .e 2]⟩], [], [], false⟩
def s_law_hosts : Stmt := top 36
def d_law_hosts : Df := ⟨"_law_hosts", ["_law_hope", "_law_gate", "_law_owner"], ["_law_hope", "_law_gate"], defArgs s_law_hosts, defBody s_law_hosts, defScope s_law_hosts, f_law_hosts, [⟨2, [], [.e 0, .e 1]⟩], [], [], false⟩
def s_law_loose : Stmt := top 37
def d_law_loose : Df := ⟨"_law_loose", ["_law_net", "_law_hope", "_law_bolt", "_law_found", "_law_turn", "_law_table_here", "_law_left", "_law_more", "_law_gate"], ["_law_net", "_law_hope", "_law_bolt"], defArgs s_law_loose, defBody s_law_loose, defScope s_law_loose, f_law_loose, [⟨3, [], [.e 0, .e 1, .e 2]⟩], [], [], false⟩
def s_law_due : Stmt := top 38
def d_law_due : Df := ⟨"_law_due", ["_law_net", "_law_state", "_law_thing", "_law_outside", "_law_table_here", "_law_gate"], ["_law_net", "_law_state", "_law_thing"], defArgs s_law_due, defBody s_law_due, defScope s_law_due, f_law_due, [⟨3, [], [.e 0, .e 1, .e 2]⟩], [], [], false⟩
def s_law_shut : Stmt := top 39
def d_law_shut : Df := ⟨"_law_shut", ["_law_net", "_law_gate", "_law_walker"], ["_law_net", "_law_gate"], defArgs s_law_shut, defBody s_law_shut, defScope s_law_shut, f_law_shut, [⟨2, [], [.e 0, .e 1]⟩], [], [], false⟩
def s_law_value : Stmt := top 40
def d_law_value : Df := ⟨"_law_value", ["_law_pen_here", "_law_net", "_law_state", "_law_bolt", "_law_gone", "_law_found", "_law_lot", "_law_pick", "_law_at", "_law_part", "_law_gate"], ["_law_pen_here", "_law_net", "_law_state", "_law_bolt"], defArgs s_law_value, defBody s_law_value, defScope s_law_value, f_law_value, [⟨4, [], [.e 0, .e 1, .e 2, .e 3]⟩], [], [], false⟩
def s_law : Stmt := top 41
def d_law : Df := ⟨"law", ["_law_script", "_law_pen_here", "_law_turn", "_law_path", "_law_net", "_law_state", "_law_bolt", "_law_k", "_law_thing", "_law_kept", "_law_due_here"], ["_law_script"], defArgs s_law, defBody s_law, defScope s_law, f_law, [], [], [], false⟩
def defs : List Df := [d_is_integer, d_is_between, d_may_pass, d_with_bars, d_barred_for_all, d_ends, d_first_labels, d_merged, d_labels_behind, d_labels_by, d_is_near, d_hosts_of, d_hosts_by, d_shut, d_are_gates, d_is_lot, d_outside_of, d_is_closed, d_is_stuck, d_law_pen, d_law_draw, d_law_ends, d_law_price, d_law_bars, d_law_web, d_law_possible, d_law_moved, d_law_played, d_law_standing, d_law_parts, d_law_is_near, d_law_table, d_law_hosts, d_law_loose, d_law_due, d_law_shut, d_law_value, d_law]
def cs : List (String × Cn) := [("LAST_WALKER", .i 4)]
def gi : Gi := ⟨sigsOf defs, cs.map fun p => (p.1, p.2.d)⟩
theorem b_is_integer : BindOk d_is_integer := by
  refine ⟨fun sh hm => ?_, fun hst => ?_⟩
  · rcases List.mem_cons.mp hm with rfl | hm
    · intro kV doc pm an cdv ct us ws h1 h2
      exact match us, ws, h1, h2 with | [a0], [], _, _ => rfl
    · cases hm
  · cases hst
theorem b_is_between : BindOk d_is_between := by
  refine ⟨fun sh hm => ?_, fun hst => ?_⟩
  · rcases List.mem_cons.mp hm with rfl | hm
    · intro kV doc pm an cdv ct us ws h1 h2
      exact match us, ws, h1, h2 with | [a0, a1, a2], [], _, _ => rfl
    · cases hm
  · cases hst
theorem b_may_pass : BindOk d_may_pass := by
  refine ⟨fun sh hm => ?_, fun hst => ?_⟩
  · rcases List.mem_cons.mp hm with rfl | hm
    · intro kV doc pm an cdv ct us ws h1 h2
      exact match us, ws, h1, h2 with | [a0, a1, a2], [], _, _ => rfl
    · cases hm
  · cases hst
theorem b_with_bars : BindOk d_with_bars := by
  refine ⟨fun sh hm => ?_, fun hst => ?_⟩
  · cases hm
  · refine ⟨rfl, ["web"], "bars", rfl, fun kV doc pm an cdv ct us rest h => ?_⟩
    exact match us, rest, h with | [a0], [], _ => rfl | [a0], r :: rs, _ => rfl
theorem b_barred_for_all : BindOk d_barred_for_all := by
  refine ⟨fun sh hm => ?_, fun hst => ?_⟩
  · rcases List.mem_cons.mp hm with rfl | hm
    · intro kV doc pm an cdv ct us ws h1 h2
      exact match us, ws, h1, h2 with | [a0, a1], [], _, _ => rfl
    · cases hm
  · cases hst
theorem b_ends : BindOk d_ends := by
  refine ⟨fun sh hm => ?_, fun hst => ?_⟩
  · rcases List.mem_cons.mp hm with rfl | hm
    · intro kV doc pm an cdv ct us ws h1 h2
      exact match us, ws, h1, h2 with | [a0, a1], [], _, _ => rfl
    · cases hm
  · cases hst
theorem b_first_labels : BindOk d_first_labels := by
  refine ⟨fun sh hm => ?_, fun hst => ?_⟩
  · rcases List.mem_cons.mp hm with rfl | hm
    · intro kV doc pm an cdv ct us ws h1 h2
      exact match us, ws, h1, h2 with | [a0, a1], [], _, _ => rfl
    · cases hm
  · cases hst
theorem b_merged : BindOk d_merged := by
  refine ⟨fun sh hm => ?_, fun hst => ?_⟩
  · rcases List.mem_cons.mp hm with rfl | hm
    · intro kV doc pm an cdv ct us ws h1 h2
      exact match us, ws, h1, h2 with | [a0, a1, a2], [], _, _ => rfl
    · cases hm
  · cases hst
theorem b_labels_behind : BindOk d_labels_behind := by
  refine ⟨fun sh hm => ?_, fun hst => ?_⟩
  · rcases List.mem_cons.mp hm with rfl | hm
    · intro kV doc pm an cdv ct us ws h1 h2
      exact match us, ws, h1, h2 with | [a0, a1, a2], [], _, _ => rfl
    · cases hm
  · cases hst
theorem b_labels_by : BindOk d_labels_by := by
  refine ⟨fun sh hm => ?_, fun hst => ?_⟩
  · rcases List.mem_cons.mp hm with rfl | hm
    · intro kV doc pm an cdv ct us ws h1 h2
      exact match us, ws, h1, h2 with | [a0, a1, a2], [], _, _ => rfl
    · cases hm
  · cases hst
theorem b_is_near : BindOk d_is_near := by
  refine ⟨fun sh hm => ?_, fun hst => ?_⟩
  · rcases List.mem_cons.mp hm with rfl | hm
    · intro kV doc pm an cdv ct us ws h1 h2
      exact match us, ws, h1, h2 with | [a0, a1, a2, a3, a4], [], _, _ => rfl
    · cases hm
  · cases hst
theorem b_hosts_of : BindOk d_hosts_of := by
  refine ⟨fun sh hm => ?_, fun hst => ?_⟩
  · rcases List.mem_cons.mp hm with rfl | hm
    · intro kV doc pm an cdv ct us ws h1 h2
      exact match us, ws, h1, h2 with | [a0, a1, a2], [], _, _ => rfl
    · cases hm
  · cases hst
theorem b_hosts_by : BindOk d_hosts_by := by
  refine ⟨fun sh hm => ?_, fun hst => ?_⟩
  · rcases List.mem_cons.mp hm with rfl | hm
    · intro kV doc pm an cdv ct us ws h1 h2
      exact match us, ws, h1, h2 with | [a0, a1], [], _, _ => rfl
    · cases hm
  · cases hst
theorem b_shut : BindOk d_shut := by
  refine ⟨fun sh hm => ?_, fun hst => ?_⟩
  · rcases List.mem_cons.mp hm with rfl | hm
    · intro kV doc pm an cdv ct us ws h1 h2
      exact match us, ws, h1, h2 with | [a0, a1], [], _, _ => rfl
    · cases hm
  · cases hst
theorem b_are_gates : BindOk d_are_gates := by
  refine ⟨fun sh hm => ?_, fun hst => ?_⟩
  · rcases List.mem_cons.mp hm with rfl | hm
    · intro kV doc pm an cdv ct us ws h1 h2
      exact match us, ws, h1, h2 with | [a0, a1], [], _, _ => rfl
    · cases hm
  · cases hst
theorem b_is_lot : BindOk d_is_lot := by
  refine ⟨fun sh hm => ?_, fun hst => ?_⟩
  · rcases List.mem_cons.mp hm with rfl | hm
    · intro kV doc pm an cdv ct us ws h1 h2
      exact match us, ws, h1, h2 with | [a0, a1], [], _, _ => rfl
    · cases hm
  · cases hst
theorem b_outside_of : BindOk d_outside_of := by
  refine ⟨fun sh hm => ?_, fun hst => ?_⟩
  · rcases List.mem_cons.mp hm with rfl | hm
    · intro kV doc pm an cdv ct us ws h1 h2
      exact match us, ws, h1, h2 with | [a0, a1], [], _, _ => rfl
    · cases hm
  · cases hst
theorem b_is_closed : BindOk d_is_closed := by
  refine ⟨fun sh hm => ?_, fun hst => ?_⟩
  · rcases List.mem_cons.mp hm with rfl | hm
    · intro kV doc pm an cdv ct us ws h1 h2
      exact match us, ws, h1, h2 with | [a0, a1, a2, a3], [], _, _ => rfl
    · cases hm
  · cases hst
theorem b_is_stuck : BindOk d_is_stuck := by
  refine ⟨fun sh hm => ?_, fun hst => ?_⟩
  · rcases List.mem_cons.mp hm with rfl | hm
    · intro T doc pm an cdv ct us mv ws h1 h2 h3
      exact match us, mv, ws, h1, h2, h3 with | [], [c0], [b0, b1, b2], _, _, _ => ⟨_, _, _, _, _, _, rfl, rfl, rfl⟩
    rcases List.mem_cons.mp hm with rfl | hm
    · intro T doc pm an cdv ct us mv ws h1 h2 h3
      exact match us, mv, ws, h1, h2, h3 with | [a0, a1, a2], [c0], [], _, _, _ => ⟨_, _, _, _, _, _, rfl, rfl, rfl⟩
    rcases List.mem_cons.mp hm with rfl | hm
    · intro T doc pm an cdv ct us mv ws h1 h2 h3
      exact match us, mv, ws, h1, h2, h3 with | [a0, a1, a2], [], [b0], _, _, _ => rfl
    · cases hm
  · cases hst
theorem b_law_pen : BindOk d_law_pen := by
  refine ⟨fun sh hm => ?_, fun hst => ?_⟩
  · rcases List.mem_cons.mp hm with rfl | hm
    · intro kV doc pm an cdv ct us ws h1 h2
      exact match us, ws, h1, h2 with | [a0], [], _, _ => rfl
    · cases hm
  · cases hst
theorem b_law_draw : BindOk d_law_draw := by
  refine ⟨fun sh hm => ?_, fun hst => ?_⟩
  · rcases List.mem_cons.mp hm with rfl | hm
    · intro kV doc pm an cdv ct us ws h1 h2
      exact match us, ws, h1, h2 with | [a0, a1], [], _, _ => rfl
    · cases hm
  · cases hst
theorem b_law_ends : BindOk d_law_ends := by
  refine ⟨fun sh hm => ?_, fun hst => ?_⟩
  · rcases List.mem_cons.mp hm with rfl | hm
    · intro kV doc pm an cdv ct us ws h1 h2
      exact match us, ws, h1, h2 with | [a0, a1, a2, a3], [], _, _ => rfl
    · cases hm
  · cases hst
theorem b_law_price : BindOk d_law_price := by
  refine ⟨fun sh hm => ?_, fun hst => ?_⟩
  · rcases List.mem_cons.mp hm with rfl | hm
    · intro kV doc pm an cdv ct us ws h1 h2
      exact match us, ws, h1, h2 with | [a0], [], _, _ => rfl
    · cases hm
  · cases hst
theorem b_law_bars : BindOk d_law_bars := by
  refine ⟨fun sh hm => ?_, fun hst => ?_⟩
  · rcases List.mem_cons.mp hm with rfl | hm
    · intro kV doc pm an cdv ct us ws h1 h2
      exact match us, ws, h1, h2 with | [a0, a1], [], _, _ => rfl
    · cases hm
  · cases hst
theorem b_law_web : BindOk d_law_web := by
  refine ⟨fun sh hm => ?_, fun hst => ?_⟩
  · rcases List.mem_cons.mp hm with rfl | hm
    · intro kV doc pm an cdv ct us ws h1 h2
      exact match us, ws, h1, h2 with | [a0, a1, a2], [], _, _ => rfl
    · cases hm
  · cases hst
theorem b_law_possible : BindOk d_law_possible := by
  refine ⟨fun sh hm => ?_, fun hst => ?_⟩
  · rcases List.mem_cons.mp hm with rfl | hm
    · intro kV doc pm an cdv ct us ws h1 h2
      exact match us, ws, h1, h2 with | [a0, a1], [], _, _ => rfl
    · cases hm
  · cases hst
theorem b_law_moved : BindOk d_law_moved := by
  refine ⟨fun sh hm => ?_, fun hst => ?_⟩
  · rcases List.mem_cons.mp hm with rfl | hm
    · intro kV doc pm an cdv ct us ws h1 h2
      exact match us, ws, h1, h2 with | [a0, a1, a2, a3], [], _, _ => rfl
    · cases hm
  · cases hst
theorem b_law_played : BindOk d_law_played := by
  refine ⟨fun sh hm => ?_, fun hst => ?_⟩
  · rcases List.mem_cons.mp hm with rfl | hm
    · intro kV doc pm an cdv ct us ws h1 h2
      exact match us, ws, h1, h2 with | [a0, a1, a2, a3], [], _, _ => rfl
    · cases hm
  · cases hst
theorem b_law_standing : BindOk d_law_standing := by
  refine ⟨fun sh hm => ?_, fun hst => ?_⟩
  · rcases List.mem_cons.mp hm with rfl | hm
    · intro kV doc pm an cdv ct us ws h1 h2
      exact match us, ws, h1, h2 with | [a0, a1, a2], [], _, _ => rfl
    · cases hm
  · cases hst
theorem b_law_parts : BindOk d_law_parts := by
  refine ⟨fun sh hm => ?_, fun hst => ?_⟩
  · rcases List.mem_cons.mp hm with rfl | hm
    · intro kV doc pm an cdv ct us ws h1 h2
      exact match us, ws, h1, h2 with | [a0, a1, a2], [], _, _ => rfl
    · cases hm
  · cases hst
theorem b_law_is_near : BindOk d_law_is_near := by
  refine ⟨fun sh hm => ?_, fun hst => ?_⟩
  · rcases List.mem_cons.mp hm with rfl | hm
    · intro kV doc pm an cdv ct us ws h1 h2
      exact match us, ws, h1, h2 with | [a0, a1, a2, a3, a4], [], _, _ => rfl
    · cases hm
  · cases hst
theorem b_law_table : BindOk d_law_table := by
  refine ⟨fun sh hm => ?_, fun hst => ?_⟩
  · rcases List.mem_cons.mp hm with rfl | hm
    · intro kV doc pm an cdv ct us ws h1 h2
      exact match us, ws, h1, h2 with | [a0, a1, a2], [], _, _ => rfl
    · cases hm
  · cases hst
theorem b_law_hosts : BindOk d_law_hosts := by
  refine ⟨fun sh hm => ?_, fun hst => ?_⟩
  · rcases List.mem_cons.mp hm with rfl | hm
    · intro kV doc pm an cdv ct us ws h1 h2
      exact match us, ws, h1, h2 with | [a0, a1], [], _, _ => rfl
    · cases hm
  · cases hst
theorem b_law_loose : BindOk d_law_loose := by
  refine ⟨fun sh hm => ?_, fun hst => ?_⟩
  · rcases List.mem_cons.mp hm with rfl | hm
    · intro kV doc pm an cdv ct us ws h1 h2
      exact match us, ws, h1, h2 with | [a0, a1, a2], [], _, _ => rfl
    · cases hm
  · cases hst
theorem b_law_due : BindOk d_law_due := by
  refine ⟨fun sh hm => ?_, fun hst => ?_⟩
  · rcases List.mem_cons.mp hm with rfl | hm
    · intro kV doc pm an cdv ct us ws h1 h2
      exact match us, ws, h1, h2 with | [a0, a1, a2], [], _, _ => rfl
    · cases hm
  · cases hst
theorem b_law_shut : BindOk d_law_shut := by
  refine ⟨fun sh hm => ?_, fun hst => ?_⟩
  · rcases List.mem_cons.mp hm with rfl | hm
    · intro kV doc pm an cdv ct us ws h1 h2
      exact match us, ws, h1, h2 with | [a0, a1], [], _, _ => rfl
    · cases hm
  · cases hst
theorem b_law_value : BindOk d_law_value := by
  refine ⟨fun sh hm => ?_, fun hst => ?_⟩
  · rcases List.mem_cons.mp hm with rfl | hm
    · intro kV doc pm an cdv ct us ws h1 h2
      exact match us, ws, h1, h2 with | [a0, a1, a2, a3], [], _, _ => rfl
    · cases hm
  · cases hst
theorem b_law : BindOk d_law := by
  refine ⟨fun sh hm => ?_, fun hst => ?_⟩
  · cases hm
  · cases hst
theorem all_b : ∀ d ∈ defs, BindOk d := by
  intro d hm
  rcases List.mem_cons.mp hm with rfl | hm
  · exact b_is_integer
  rcases List.mem_cons.mp hm with rfl | hm
  · exact b_is_between
  rcases List.mem_cons.mp hm with rfl | hm
  · exact b_may_pass
  rcases List.mem_cons.mp hm with rfl | hm
  · exact b_with_bars
  rcases List.mem_cons.mp hm with rfl | hm
  · exact b_barred_for_all
  rcases List.mem_cons.mp hm with rfl | hm
  · exact b_ends
  rcases List.mem_cons.mp hm with rfl | hm
  · exact b_first_labels
  rcases List.mem_cons.mp hm with rfl | hm
  · exact b_merged
  rcases List.mem_cons.mp hm with rfl | hm
  · exact b_labels_behind
  rcases List.mem_cons.mp hm with rfl | hm
  · exact b_labels_by
  rcases List.mem_cons.mp hm with rfl | hm
  · exact b_is_near
  rcases List.mem_cons.mp hm with rfl | hm
  · exact b_hosts_of
  rcases List.mem_cons.mp hm with rfl | hm
  · exact b_hosts_by
  rcases List.mem_cons.mp hm with rfl | hm
  · exact b_shut
  rcases List.mem_cons.mp hm with rfl | hm
  · exact b_are_gates
  rcases List.mem_cons.mp hm with rfl | hm
  · exact b_is_lot
  rcases List.mem_cons.mp hm with rfl | hm
  · exact b_outside_of
  rcases List.mem_cons.mp hm with rfl | hm
  · exact b_is_closed
  rcases List.mem_cons.mp hm with rfl | hm
  · exact b_is_stuck
  rcases List.mem_cons.mp hm with rfl | hm
  · exact b_law_pen
  rcases List.mem_cons.mp hm with rfl | hm
  · exact b_law_draw
  rcases List.mem_cons.mp hm with rfl | hm
  · exact b_law_ends
  rcases List.mem_cons.mp hm with rfl | hm
  · exact b_law_price
  rcases List.mem_cons.mp hm with rfl | hm
  · exact b_law_bars
  rcases List.mem_cons.mp hm with rfl | hm
  · exact b_law_web
  rcases List.mem_cons.mp hm with rfl | hm
  · exact b_law_possible
  rcases List.mem_cons.mp hm with rfl | hm
  · exact b_law_moved
  rcases List.mem_cons.mp hm with rfl | hm
  · exact b_law_played
  rcases List.mem_cons.mp hm with rfl | hm
  · exact b_law_standing
  rcases List.mem_cons.mp hm with rfl | hm
  · exact b_law_parts
  rcases List.mem_cons.mp hm with rfl | hm
  · exact b_law_is_near
  rcases List.mem_cons.mp hm with rfl | hm
  · exact b_law_table
  rcases List.mem_cons.mp hm with rfl | hm
  · exact b_law_hosts
  rcases List.mem_cons.mp hm with rfl | hm
  · exact b_law_loose
  rcases List.mem_cons.mp hm with rfl | hm
  · exact b_law_due
  rcases List.mem_cons.mp hm with rfl | hm
  · exact b_law_shut
  rcases List.mem_cons.mp hm with rfl | hm
  · exact b_law_value
  rcases List.mem_cons.mp hm with rfl | hm
  · exact b_law
  cases hm
theorem all_sh : ∀ d ∈ defs, shB d = true := by decide +kernel
theorem o_is_integer : okDf gi d_is_integer = true := by decide +kernel
theorem o_is_between : okDf gi d_is_between = true := by decide +kernel
theorem o_may_pass : okDf gi d_may_pass = true := by decide +kernel
theorem o_with_bars : okDf gi d_with_bars = true := by decide +kernel
theorem o_barred_for_all : okDf gi d_barred_for_all = true := by decide +kernel
theorem o_ends : okDf gi d_ends = true := by decide +kernel
theorem o_first_labels : okDf gi d_first_labels = true := by decide +kernel
theorem o_merged : okDf gi d_merged = true := by decide +kernel
theorem o_labels_behind : okDf gi d_labels_behind = true := by decide +kernel
theorem o_labels_by : okDf gi d_labels_by = true := by decide +kernel
theorem o_is_near : okDf gi d_is_near = true := by decide +kernel
theorem o_hosts_of : okDf gi d_hosts_of = true := by decide +kernel
theorem o_hosts_by : okDf gi d_hosts_by = true := by decide +kernel
theorem o_shut : okDf gi d_shut = true := by decide +kernel
theorem o_are_gates : okDf gi d_are_gates = true := by decide +kernel
theorem o_is_lot : okDf gi d_is_lot = true := by decide +kernel
theorem o_outside_of : okDf gi d_outside_of = true := by decide +kernel
theorem o_is_closed : okDf gi d_is_closed = true := by decide +kernel
theorem o_is_stuck : okDf gi d_is_stuck = true := by decide +kernel
theorem o_law_pen : okDf gi d_law_pen = true := by decide +kernel
theorem o_law_draw : okDf gi d_law_draw = true := by decide +kernel
theorem o_law_ends : okDf gi d_law_ends = true := by decide +kernel
theorem o_law_price : okDf gi d_law_price = true := by decide +kernel
theorem o_law_bars : okDf gi d_law_bars = true := by decide +kernel
theorem o_law_web : okDf gi d_law_web = true := by decide +kernel
theorem o_law_possible : okDf gi d_law_possible = true := by decide +kernel
theorem o_law_moved : okDf gi d_law_moved = true := by decide +kernel
theorem o_law_played : okDf gi d_law_played = true := by decide +kernel
theorem o_law_standing : okDf gi d_law_standing = true := by decide +kernel
theorem o_law_parts : okDf gi d_law_parts = true := by decide +kernel
theorem o_law_is_near : okDf gi d_law_is_near = true := by decide +kernel
theorem o_law_table : okDf gi d_law_table = true := by decide +kernel
theorem o_law_hosts : okDf gi d_law_hosts = true := by decide +kernel
theorem o_law_loose : okDf gi d_law_loose = true := by decide +kernel
theorem o_law_due : okDf gi d_law_due = true := by decide +kernel
theorem o_law_shut : okDf gi d_law_shut = true := by decide +kernel
theorem o_law_value : okDf gi d_law_value = true := by decide +kernel
theorem o_law : okDf gi d_law = true := by decide +kernel
theorem all_ok : ∀ d ∈ defs, okDf gi d = true := by
  intro d hm
  rcases List.mem_cons.mp hm with rfl | hm
  · exact o_is_integer
  rcases List.mem_cons.mp hm with rfl | hm
  · exact o_is_between
  rcases List.mem_cons.mp hm with rfl | hm
  · exact o_may_pass
  rcases List.mem_cons.mp hm with rfl | hm
  · exact o_with_bars
  rcases List.mem_cons.mp hm with rfl | hm
  · exact o_barred_for_all
  rcases List.mem_cons.mp hm with rfl | hm
  · exact o_ends
  rcases List.mem_cons.mp hm with rfl | hm
  · exact o_first_labels
  rcases List.mem_cons.mp hm with rfl | hm
  · exact o_merged
  rcases List.mem_cons.mp hm with rfl | hm
  · exact o_labels_behind
  rcases List.mem_cons.mp hm with rfl | hm
  · exact o_labels_by
  rcases List.mem_cons.mp hm with rfl | hm
  · exact o_is_near
  rcases List.mem_cons.mp hm with rfl | hm
  · exact o_hosts_of
  rcases List.mem_cons.mp hm with rfl | hm
  · exact o_hosts_by
  rcases List.mem_cons.mp hm with rfl | hm
  · exact o_shut
  rcases List.mem_cons.mp hm with rfl | hm
  · exact o_are_gates
  rcases List.mem_cons.mp hm with rfl | hm
  · exact o_is_lot
  rcases List.mem_cons.mp hm with rfl | hm
  · exact o_outside_of
  rcases List.mem_cons.mp hm with rfl | hm
  · exact o_is_closed
  rcases List.mem_cons.mp hm with rfl | hm
  · exact o_is_stuck
  rcases List.mem_cons.mp hm with rfl | hm
  · exact o_law_pen
  rcases List.mem_cons.mp hm with rfl | hm
  · exact o_law_draw
  rcases List.mem_cons.mp hm with rfl | hm
  · exact o_law_ends
  rcases List.mem_cons.mp hm with rfl | hm
  · exact o_law_price
  rcases List.mem_cons.mp hm with rfl | hm
  · exact o_law_bars
  rcases List.mem_cons.mp hm with rfl | hm
  · exact o_law_web
  rcases List.mem_cons.mp hm with rfl | hm
  · exact o_law_possible
  rcases List.mem_cons.mp hm with rfl | hm
  · exact o_law_moved
  rcases List.mem_cons.mp hm with rfl | hm
  · exact o_law_played
  rcases List.mem_cons.mp hm with rfl | hm
  · exact o_law_standing
  rcases List.mem_cons.mp hm with rfl | hm
  · exact o_law_parts
  rcases List.mem_cons.mp hm with rfl | hm
  · exact o_law_is_near
  rcases List.mem_cons.mp hm with rfl | hm
  · exact o_law_table
  rcases List.mem_cons.mp hm with rfl | hm
  · exact o_law_hosts
  rcases List.mem_cons.mp hm with rfl | hm
  · exact o_law_loose
  rcases List.mem_cons.mp hm with rfl | hm
  · exact o_law_due
  rcases List.mem_cons.mp hm with rfl | hm
  · exact o_law_shut
  rcases List.mem_cons.mp hm with rfl | hm
  · exact o_law_value
  rcases List.mem_cons.mp hm with rfl | hm
  · exact o_law
  cases hm
theorem c_is_integer : FnScope d_is_integer.N d_is_integer.ps d_is_integer.scope := ⟨rfl, rfl, rfl, by decide +kernel, rfl, by decide +kernel, by decide +kernel⟩
theorem c_is_between : FnScope d_is_between.N d_is_between.ps d_is_between.scope := ⟨rfl, rfl, rfl, by decide +kernel, rfl, by decide +kernel, by decide +kernel⟩
theorem c_may_pass : FnScope d_may_pass.N d_may_pass.ps d_may_pass.scope := ⟨rfl, rfl, rfl, by decide +kernel, rfl, by decide +kernel, by decide +kernel⟩
theorem c_with_bars : FnScope d_with_bars.N d_with_bars.ps d_with_bars.scope := ⟨rfl, rfl, rfl, by decide +kernel, rfl, by decide +kernel, by decide +kernel⟩
theorem c_barred_for_all : FnScope d_barred_for_all.N d_barred_for_all.ps d_barred_for_all.scope := ⟨rfl, rfl, rfl, by decide +kernel, rfl, by decide +kernel, by decide +kernel⟩
theorem c_ends : FnScope d_ends.N d_ends.ps d_ends.scope := ⟨rfl, rfl, rfl, by decide +kernel, rfl, by decide +kernel, by decide +kernel⟩
theorem c_first_labels : FnScope d_first_labels.N d_first_labels.ps d_first_labels.scope := ⟨rfl, rfl, rfl, by decide +kernel, rfl, by decide +kernel, by decide +kernel⟩
theorem c_merged : FnScope d_merged.N d_merged.ps d_merged.scope := ⟨rfl, rfl, rfl, by decide +kernel, rfl, by decide +kernel, by decide +kernel⟩
theorem c_labels_behind : FnScope d_labels_behind.N d_labels_behind.ps d_labels_behind.scope := ⟨rfl, rfl, rfl, by decide +kernel, rfl, by decide +kernel, by decide +kernel⟩
theorem c_labels_by : FnScope d_labels_by.N d_labels_by.ps d_labels_by.scope := ⟨rfl, rfl, rfl, by decide +kernel, rfl, by decide +kernel, by decide +kernel⟩
theorem c_is_near : FnScope d_is_near.N d_is_near.ps d_is_near.scope := ⟨rfl, rfl, rfl, by decide +kernel, rfl, by decide +kernel, by decide +kernel⟩
theorem c_hosts_of : FnScope d_hosts_of.N d_hosts_of.ps d_hosts_of.scope := ⟨rfl, rfl, rfl, by decide +kernel, rfl, by decide +kernel, by decide +kernel⟩
theorem c_hosts_by : FnScope d_hosts_by.N d_hosts_by.ps d_hosts_by.scope := ⟨rfl, rfl, rfl, by decide +kernel, rfl, by decide +kernel, by decide +kernel⟩
theorem c_shut : FnScope d_shut.N d_shut.ps d_shut.scope := ⟨rfl, rfl, rfl, by decide +kernel, rfl, by decide +kernel, by decide +kernel⟩
theorem c_are_gates : FnScope d_are_gates.N d_are_gates.ps d_are_gates.scope := ⟨rfl, rfl, rfl, by decide +kernel, rfl, by decide +kernel, by decide +kernel⟩
theorem c_is_lot : FnScope d_is_lot.N d_is_lot.ps d_is_lot.scope := ⟨rfl, rfl, rfl, by decide +kernel, rfl, by decide +kernel, by decide +kernel⟩
theorem c_outside_of : FnScope d_outside_of.N d_outside_of.ps d_outside_of.scope := ⟨rfl, rfl, rfl, by decide +kernel, rfl, by decide +kernel, by decide +kernel⟩
theorem c_is_closed : FnScope d_is_closed.N d_is_closed.ps d_is_closed.scope := ⟨rfl, rfl, rfl, by decide +kernel, rfl, by decide +kernel, by decide +kernel⟩
theorem c_is_stuck : FnScope d_is_stuck.N d_is_stuck.ps d_is_stuck.scope := ⟨rfl, rfl, rfl, by decide +kernel, rfl, by decide +kernel, by decide +kernel⟩
theorem c_law_pen : FnScope d_law_pen.N d_law_pen.ps d_law_pen.scope := ⟨rfl, rfl, rfl, by decide +kernel, rfl, by decide +kernel, by decide +kernel⟩
theorem c_law_draw : FnScope d_law_draw.N d_law_draw.ps d_law_draw.scope := ⟨rfl, rfl, rfl, by decide +kernel, rfl, by decide +kernel, by decide +kernel⟩
theorem c_law_ends : FnScope d_law_ends.N d_law_ends.ps d_law_ends.scope := ⟨rfl, rfl, rfl, by decide +kernel, rfl, by decide +kernel, by decide +kernel⟩
theorem c_law_price : FnScope d_law_price.N d_law_price.ps d_law_price.scope := ⟨rfl, rfl, rfl, by decide +kernel, rfl, by decide +kernel, by decide +kernel⟩
theorem c_law_bars : FnScope d_law_bars.N d_law_bars.ps d_law_bars.scope := ⟨rfl, rfl, rfl, by decide +kernel, rfl, by decide +kernel, by decide +kernel⟩
theorem c_law_web : FnScope d_law_web.N d_law_web.ps d_law_web.scope := ⟨rfl, rfl, rfl, by decide +kernel, rfl, by decide +kernel, by decide +kernel⟩
theorem c_law_possible : FnScope d_law_possible.N d_law_possible.ps d_law_possible.scope := ⟨rfl, rfl, rfl, by decide +kernel, rfl, by decide +kernel, by decide +kernel⟩
theorem c_law_moved : FnScope d_law_moved.N d_law_moved.ps d_law_moved.scope := ⟨rfl, rfl, rfl, by decide +kernel, rfl, by decide +kernel, by decide +kernel⟩
theorem c_law_played : FnScope d_law_played.N d_law_played.ps d_law_played.scope := ⟨rfl, rfl, rfl, by decide +kernel, rfl, by decide +kernel, by decide +kernel⟩
theorem c_law_standing : FnScope d_law_standing.N d_law_standing.ps d_law_standing.scope := ⟨rfl, rfl, rfl, by decide +kernel, rfl, by decide +kernel, by decide +kernel⟩
theorem c_law_parts : FnScope d_law_parts.N d_law_parts.ps d_law_parts.scope := ⟨rfl, rfl, rfl, by decide +kernel, rfl, by decide +kernel, by decide +kernel⟩
theorem c_law_is_near : FnScope d_law_is_near.N d_law_is_near.ps d_law_is_near.scope := ⟨rfl, rfl, rfl, by decide +kernel, rfl, by decide +kernel, by decide +kernel⟩
theorem c_law_table : FnScope d_law_table.N d_law_table.ps d_law_table.scope := ⟨rfl, rfl, rfl, by decide +kernel, rfl, by decide +kernel, by decide +kernel⟩
theorem c_law_hosts : FnScope d_law_hosts.N d_law_hosts.ps d_law_hosts.scope := ⟨rfl, rfl, rfl, by decide +kernel, rfl, by decide +kernel, by decide +kernel⟩
theorem c_law_loose : FnScope d_law_loose.N d_law_loose.ps d_law_loose.scope := ⟨rfl, rfl, rfl, by decide +kernel, rfl, by decide +kernel, by decide +kernel⟩
theorem c_law_due : FnScope d_law_due.N d_law_due.ps d_law_due.scope := ⟨rfl, rfl, rfl, by decide +kernel, rfl, by decide +kernel, by decide +kernel⟩
theorem c_law_shut : FnScope d_law_shut.N d_law_shut.ps d_law_shut.scope := ⟨rfl, rfl, rfl, by decide +kernel, rfl, by decide +kernel, by decide +kernel⟩
theorem c_law_value : FnScope d_law_value.N d_law_value.ps d_law_value.scope := ⟨rfl, rfl, rfl, by decide +kernel, rfl, by decide +kernel, by decide +kernel⟩
theorem c_law : FnScope d_law.N d_law.ps d_law.scope := ⟨rfl, rfl, rfl, by decide +kernel, rfl, by decide +kernel, by decide +kernel⟩
theorem all_sc : ∀ d ∈ defs, FnScope d.N d.ps d.scope := by
  intro d hm
  rcases List.mem_cons.mp hm with rfl | hm
  · exact c_is_integer
  rcases List.mem_cons.mp hm with rfl | hm
  · exact c_is_between
  rcases List.mem_cons.mp hm with rfl | hm
  · exact c_may_pass
  rcases List.mem_cons.mp hm with rfl | hm
  · exact c_with_bars
  rcases List.mem_cons.mp hm with rfl | hm
  · exact c_barred_for_all
  rcases List.mem_cons.mp hm with rfl | hm
  · exact c_ends
  rcases List.mem_cons.mp hm with rfl | hm
  · exact c_first_labels
  rcases List.mem_cons.mp hm with rfl | hm
  · exact c_merged
  rcases List.mem_cons.mp hm with rfl | hm
  · exact c_labels_behind
  rcases List.mem_cons.mp hm with rfl | hm
  · exact c_labels_by
  rcases List.mem_cons.mp hm with rfl | hm
  · exact c_is_near
  rcases List.mem_cons.mp hm with rfl | hm
  · exact c_hosts_of
  rcases List.mem_cons.mp hm with rfl | hm
  · exact c_hosts_by
  rcases List.mem_cons.mp hm with rfl | hm
  · exact c_shut
  rcases List.mem_cons.mp hm with rfl | hm
  · exact c_are_gates
  rcases List.mem_cons.mp hm with rfl | hm
  · exact c_is_lot
  rcases List.mem_cons.mp hm with rfl | hm
  · exact c_outside_of
  rcases List.mem_cons.mp hm with rfl | hm
  · exact c_is_closed
  rcases List.mem_cons.mp hm with rfl | hm
  · exact c_is_stuck
  rcases List.mem_cons.mp hm with rfl | hm
  · exact c_law_pen
  rcases List.mem_cons.mp hm with rfl | hm
  · exact c_law_draw
  rcases List.mem_cons.mp hm with rfl | hm
  · exact c_law_ends
  rcases List.mem_cons.mp hm with rfl | hm
  · exact c_law_price
  rcases List.mem_cons.mp hm with rfl | hm
  · exact c_law_bars
  rcases List.mem_cons.mp hm with rfl | hm
  · exact c_law_web
  rcases List.mem_cons.mp hm with rfl | hm
  · exact c_law_possible
  rcases List.mem_cons.mp hm with rfl | hm
  · exact c_law_moved
  rcases List.mem_cons.mp hm with rfl | hm
  · exact c_law_played
  rcases List.mem_cons.mp hm with rfl | hm
  · exact c_law_standing
  rcases List.mem_cons.mp hm with rfl | hm
  · exact c_law_parts
  rcases List.mem_cons.mp hm with rfl | hm
  · exact c_law_is_near
  rcases List.mem_cons.mp hm with rfl | hm
  · exact c_law_table
  rcases List.mem_cons.mp hm with rfl | hm
  · exact c_law_hosts
  rcases List.mem_cons.mp hm with rfl | hm
  · exact c_law_loose
  rcases List.mem_cons.mp hm with rfl | hm
  · exact c_law_due
  rcases List.mem_cons.mp hm with rfl | hm
  · exact c_law_shut
  rcases List.mem_cons.mp hm with rfl | hm
  · exact c_law_value
  rcases List.mem_cons.mp hm with rfl | hm
  · exact c_law
  cases hm
abbrev R : PySem.W.OpenRow := PySem.W.OpenLaw.row PySem.Challenge.rw_heelpence_k18_is_stuck
def loose0 : List Str := ["LAST_WALKER", "is_integer", "is_between", "may_pass", "with_bars", "barred_for_all", "ends", "first_labels", "merged", "labels_behind", "labels_by", "is_near", "hosts_of", "hosts_by", "shut", "are_gates", "is_lot", "outside_of", "is_closed", "is_stuck", "_law_pen", "_law_draw", "_law_ends", "_law_price", "_law_bars", "_law_web", "_law_possible", "_law_moved", "_law_played", "_law_standing"]
def loose1 : List Str := ["_law_parts", "_law_is_near", "_law_table", "_law_hosts", "_law_loose", "_law_due", "_law_shut", "_law_value"]
def loose : List Str := loose0 ++ loose1
abbrev cs2 : List (Str × Cn) := cs.map fun p => (Str.ofString p.1, p.2)
abbrev hk : PySem.W.Hook := MI.hookX 4 (faOf defs cs2) (fnOfD defs)
def ob (s : PySem.W.SharedT) : He.AlD := MI.obsXG 4 (faOf defs cs2) (fnOfD defs) (HandSHeadRun.getT s)
theorem ob_eq (s : PySem.W.SharedT) : ob s = hk.obs s.abs := MI.obsXG_eq (HandSHeadRun.getT_eq s)
theorem topRun (w : World) : HandSHeadRun.RunEq R (PySem.W.view R.prog [41]) hk ob 6000 loose w := by
  intro os
  kernel_rfl
theorem holds : ∀ ns : List Int, ns.length ≤ 63 → ∃ fin, MI.run (defs.map (·.fd)) 1000 8 37 [.sc ns] = .ret (.sh (.bool true)) fin := by
  intro ns _
  obtain ⟨m, fin, e, p⟩ := law_ok (fuel := 1000) 1 ns
  subst p
  exact ⟨fin, e⟩
end Q
open PySem PySem.W PySem.Calls PyProof.Rows
theorem PySem.Challenge.cw_heelpence_k18_is_stuck_holds : PySem.Challenge.rw_heelpence_k18_is_stuck.Holds := by
  w_on; o_law
  refine HandSHeadRun.head_any (r := OpenLaw.row PySem.Challenge.rw_heelpence_k18_is_stuck) (q := view (OpenLaw.row PySem.Challenge.rw_heelpence_k18_is_stuck).prog [41]) (H := Q.hk) (ob := Q.ob) (M := 6000) (loose := Q.loose) (d := HandSHeadRun.topDef (OpenLaw.row PySem.Challenge.rw_heelpence_k18_is_stuck).prog 41) (kwd := []) Q.ob_eq
    (by kernel_rfl) (fun s => by kernel_rfl) Q.topRun (by kernel_rfl) (by kernel_rfl) (by kernel_rfl) (by rfl) (by first | assumption | decide +kernel) (by decide +kernel) ⟨rfl, rfl, rfl, rfl, rfl, by decide +kernel⟩ ?hw ?hc
  case hw => w_witness2
  case hc =>
    exact MI.end_of (l := PySem.Challenge.rw_heelpence_k18_is_stuck) (n := 63) (k := 8) (x := "_law_script") (defs := Q.defs) (cs := Q.cs) (gi := Q.gi) (li := 37) (dl := Q.d_law) 1000 _ rfl (by decide) (by kernel_rfl) ⟨rfl, by decide, by decide⟩ rfl rfl Q.all_b Q.all_sh Q.all_ok Q.all_sc rfl (by kernel_rfl) rfl rfl (fun _ _ _ _ _ _ _ => rfl) Q.holds
