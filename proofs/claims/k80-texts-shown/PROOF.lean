import PyProof.Rows.All
import KE.LtData
import KE.DataEq
import KE.DataAny
import KE.DataMinMax
import KE.DataFind
import KE.SortData
import HandS.ForMost
import HandS.Exc
import HandS.TryOnly
import HandS.TryMany
import HandS.WordsExc
import HandS.IsInst
import HandS.Conv
import HandS.Walk
import HandS.Zip
import HandS.Style
import HandS.CallSlots
import HandS.HeadHook1
import HandS.TupAny
import HandS.TupMul
import HandS.RaiseMore
import HandS.Wide
import KE.KTupSum
import HandS.Deep
import HandS.More
import HandS.Flow
import PyProof.EnumMake
import PyProof.Draws
import HandS.Zip0
import KE.KDictZip
import KE.KItemsList
import HandS.ListItems
import HandS.Dict
import HandS.Defaults
import HandS.Text
import HandS.TupSets
import HandS.SetFor
import HandS.Strs
import HandS.Property
import HandS.OwnEq
import PyProof.InstNe
import OpenK.KOps
import HandS.FStr
import HandS.Star
import HandS.HeadHook2
import HandS.Ends
import HandS.HeadEnd
import HandS.MakeKw
import HandS.MakeKwOnly
import PyProof.StrLawsRepr
import HandS.Head0
import HandS.Head1
import HandS.Head2
import KE.KStateDown
import PySem.Challenge.RW_heelpence_k80_texts_shown
set_option Elab.async false
set_option linter.all false
set_option autoImplicit false
set_option maxRecDepth 100000
set_option maxHeartbeats 0
/-! A small language and its evaluator (plain Lean). -/
namespace MI
open PySem
abbrev D := PyData
/-- what a name holds: shared data; an own list, an own dict (p: pinned: it came in by the call and goes out with it) -/
inductive M where
  | sh (d : D)
  | ol (p : Bool) (xs : List D)
  | od (p : Bool) (kvs : List (D × D))
  | ob (C : Str) (fs : List (Str × D))
  | sc (ns : List Int)   -- the script
deriving Inhabited
/-- what an expression gives -/
inductive R where
  | val (d : D)
  | new (xs : List D)
  | newd (kvs : List (D × D))
  | own (i : Nat)
  | ob (C : Str) (fs : List (Str × D))
  | sc (ns : List Int)
deriving Inhabited
abbrev Env := List (Option M)
/-- an exception: its class, its fields -/
structure Xn where
  cls : Nat
  fs : List (Nat × D)
deriving Inhabited
inductive Out (α : Type) where
  | ok (a : α) (ρ : Env)
  | ex (x : Xn) (ρ : Env)
  | no
deriving Inhabited
def Out.bind {α β : Type} (o : Out α) (k : α → Env → Out β) : Out β := match o with
  | .ok a ρ => k a ρ
  | .ex x ρ => .ex x ρ
  | .no => .no
def Out.lift {α : Type} (o : Option α) (ρ : Env) : Out α := match o with
  | some a => .ok a ρ
  | none => .no
inductive Op where
  | add | sub | mul | fdiv | mod | pow | band | bor | shl | shr
deriving DecidableEq, Inhabited
inductive Cp where
  | eq | ne | lt | le | gt | ge | isin | notin | isN | notN
deriving DecidableEq, Inhabited
/-- built-ins called with evaluated arguments -/
inductive Bi where
  | len | abs | int | bool | str | repr | list | tuple | sum | max | min | any | all | sorted
  | sortedSet | lenSet
deriving DecidableEq, Inhabited
/-- classes that isinstance asks -/
inductive Ty where
  | int | bool | str | list | tuple | dict
deriving DecidableEq, Inhabited
/-- methods that read -/
inductive Me where
  | index | count | get
deriving DecidableEq, Inhabited
/-- methods that change an own list -/
inductive Mu where
  | append | extend | pop | popAt | insert | remove | reverse
deriving DecidableEq, Inhabited
inductive Tg where
  | name (i : Nat)
  | tup (ts : List Tg)
deriving Inhabited
/-- where a parameter's value comes from: the k-th evaluated argument, a default -/
inductive Arg where
  | e (k : Nat)
  | d (x : D)
deriving Inhabited
mutual
inductive Ex where
  | var (i : Nat)
  | int (i : Int)
  | str (s : String)
  | bl (b : Bool)
  | non
  | tup (es : List Ex)
  | lst (es : List Ex)
  | dct (kvs : List (Ex × Ex))
  | neg (a : Ex)
  | not (a : Ex)
  | bin (o : Op) (a b : Ex)
  | cmp (o : Cp) (a b : Ex)
  | chain (o p : Cp) (a b c : Ex)
  | and (a b : Ex)
  | or (a b : Ex)
  | ite (c a b : Ex)
  | idx (a i : Ex)
  | sl (a : Ex) (lo hi : Option Ex)
  | rev (a : Ex)
  | isa (a : Ex) (ts : List Ty) (many : Bool)
  | bi1 (f : Bi) (a : Ex)
  | bi2 (f : Bi) (a b : Ex)
  | me (m : Me) (a : Ex) (es : List Ex)
  | mu (m : Mu) (i : Nat) (es : List Ex)
  | call (f : Nat) (es : List Ex) (refs : List Bool) (src : List Arg)
  | callB (f : Nat) (es : List Ex) (src : List Arg)   -- a call that only reads its arguments; its result is flat
  | callS (f : Nat) (es : List Ex) (st : Option Ex) (refs : List Bool) (m : Nat)   -- f(e, .., *st): m parameters, then *rest
  | comp (elt : Ex) (tg : Tg) (it : It) (cond : Option Ex)
  | glo (x : String) (d : D)   -- a constant of the module
  | lit (it : It) (tup : Bool) -- list(..), tuple(..) of something walked
  | sset (e : Ex)              -- sorted(set(e))
  | lot (C f : String) (e : Ex)    -- C(e): an object with one attribute, the set of e, ascending, as a tuple
  | prop (C f : String) (e : Ex)   -- e's property that gives the attribute f, e of the class C
  | isaC (C : String) (e : Ex)     -- isinstance(e, C), e of the class C
  | fld (C f : String) (e : Ex)    -- e.f, e of the class C
  | lenO (C f : String) (e : Ex)   -- len(e), e of the class C: the length of its attribute f
  | eqO (neg : Bool) (C f : String) (a b : Ex)   -- a == b, a != b: both of the class C, told by f
  | inO (neg : Bool) (C : String) (i : Nat) (x e : Ex)   -- x in e, e of the class C, whose __contains__ is the def i
  | fmt (e : Ex)                   -- {e} of an f-string: a text, an int
  | fstr (es : List Ex)            -- an f-string of two parts or more
  | rstr (e : Ex)                  -- e.rstrip()
  | lstS (es : List Ex) (e : Ex)   -- [es, .., *e]
  | join (sep : String) (a : Ex)
  | lzip (a b : Ex)   -- list(zip(a, b)), tuples
  | inr (neg : Bool) (a : Ex) (es : List Ex)   -- a in range(..)
  | bad   -- anything: nothing is said
inductive It where
  | seq (e : Ex)
  | rng (es : List Ex)
  | enum (e : Ex)
  | zip (a b : Ex)
end
instance : Inhabited Ex := ⟨.non⟩
instance : Inhabited It := ⟨.seq .non⟩
inductive Sx where
  | asg (i : Nat) (e : Ex)
  | unp (is : List Nat) (e : Ex)
  | par (i j : Nat) (a b : Ex)   -- a, b = e, f
  | setI (i : Nat) (ix e : Ex)
  | augI (o : Op) (i : Nat) (ix e : Ex)
  | aug (o : Op) (i : Nat) (e : Ex)
  | expr (e : Ex)
  | ret (e : Ex)
  | retN
  | ite (c : Ex) (a b : List Sx)
  | for (tg : Tg) (it : It) (b : List Sx)
  | while (c : Ex) (b : List Sx)
  | pass
  | brk
  | cont
  | tryN (b : List Sx)   -- try: b except ..: b never raises
  | raise (C : Nat) (es : List Ex)
deriving Inhabited
/-! ### what the operations give -/
abbrev Lim : Nat := 16777216
def gd {α : Type} (b : Bool) (a : α) : Option α := if b then some a else none
def opAdd : D → D → Option R
  | .int a, .int b => some (.val (.int (a + b)))
  | .str a, .str b => gd (decide (a.length + b.length ≤ Lim)) (.val (.str (a ++ b)))
  | .list a, .list b => gd (decide (a.length + b.length ≤ Lim)) (.new (a ++ b))
  | .tuple a, .tuple b => gd (decide (a.length + b.length ≤ Lim)) (.val (.tuple (a ++ b)))
  | _, _ => none
def opMul : D → D → Option R
  | .int a, .int b => gd (decide (a.natAbs < 2 ^ 64) || decide (b.natAbs < 2 ^ 64)) (.val (.int (a * b)))
  | .list a, .int b => gd (decide (b.natAbs < 2 ^ 62) && decide (a.length * b.toNat ≤ Lim)) (.new (List.replicate b.toNat a).flatten)
  | .tuple a, .int b => if a.isEmpty ∨ b = 1 then gd (decide (b.natAbs < 2 ^ 62)) (.val (.tuple a)) else if b = 0 then some (.val (.tuple [])) else gd (decide (2 ≤ b) && decide (b ≤ 1000) && decide (a.length ≤ 1000)) (.val (.tuple (List.replicate b.toNat a).flatten))
  | _, _ => none
def opInt (f : Int → Int → Option Int) : D → D → Option R
  | .int a, .int b => (f a b).map fun c => .val (.int c)
  | _, _ => none
def iSub (a b : Int) : Option Int := some (a - b)
def iFdiv (a b : Int) : Option Int := gd (decide (0 < b) && decide (b < 1000000000000000000000000000000000000000000000000000000000000)) (a / b)
def iMod (a b : Int) : Option Int := gd (decide (0 < b)) (a % b)
def iPow (a b : Int) : Option Int := gd (decide (0 ≤ b) && decide (b ≤ 1000000) && decide (a.natAbs < 2 ^ 64)) (a ^ b.toNat)
def opBin : Op → D → D → Option R
  | .add => opAdd
  | .sub => opInt iSub
  | .mul => opMul
  | .fdiv => opInt iFdiv
  | .mod => opInt iMod
  | .pow => opInt iPow
  | _ => fun _ _ => none
/-- data that == and in may be asked of -/
def okEq (d : D) : Bool := d.plain && decide (d.depth ≤ 64)
def lensDiffer : D → D → Bool
  | .list xs, .list ys => xs.length != ys.length
  | _, _ => false
def opEq (a b : D) : Option Bool := if lensDiffer a b then some false else gd (okEq a && okEq b) (PyData.eqv a b)
def isNone : D → Bool
  | .none => true
  | _ => false
/-- a is b: of None, of bools -/
def isD (a b : D) : Option Bool := match b with
  | .none => some (isNone a)
  | .bool y => (match a with
    | .bool x => some (x == y)
    | _ => none)
  | _ => none
def okLt (a b : D) : Bool := a.plain && b.plain && W.alike a b && decide (a.depth ≤ 64) && !isNone a
def opLt : D → D → Option Bool
  | .int a, .int b => some (decide (a < b))
  | a, b => gd (okLt a b) (W.dataLt a b)
def opLe : D → D → Option Bool
  | .int a, .int b => some (decide (a ≤ b))
  | a, b => gd (okLt a b) (!W.dataLt b a)
def opGt : D → D → Option Bool
  | .int a, .int b => some (decide (b < a))
  | _, _ => none
def opGe : D → D → Option Bool
  | .int a, .int b => some (decide (b ≤ a))
  | _, _ => none
def seqOf : D → Option (List D)
  | .list xs => some xs
  | .tuple xs => some xs
  | _ => none
def memD (a : D) (xs : List D) : Bool := xs.any fun z => PyData.eqv z a
/-! dicts, keys numbers and texts -/
def isKey : D → Bool
  | .int _ => true
  | .str _ => true
  | _ => false
def keyEq : D → D → Bool
  | .int i, .int j => decide (i = j)
  | .str a, .str b => decide (a = b)
  | _, _ => false
def dfind (k : D) : List (D × D) → Option D
  | [] => none
  | p :: r => if keyEq p.1 k then some p.2 else dfind k r
def drepl (k v : D) : List (D × D) → List (D × D)
  | [] => []
  | p :: r => (if keyEq p.1 k then (p.1, v) else p) :: drepl k v r
def dput (kvs : List (D × D)) (k v : D) : List (D × D) := if (dfind k kvs).isSome then drepl k v kvs else kvs ++ [(k, v)]
def dputs (kvs more : List (D × D)) : List (D × D) := more.foldl (fun acc kv => dput acc kv.1 kv.2) kvs
def opIn (a c : D) : Option Bool := match c with
  | .dict kvs => gd (isKey a) (dfind a kvs).isSome
  | c => (seqOf c).bind fun xs => gd (okEq a && PyData.plainAll xs) (memD a xs)
def opCmp : Cp → D → D → Option Bool
  | .eq, a, b => opEq a b
  | .ne, a, b => (opEq a b).map not
  | .lt, a, b => opLt a b
  | .le, a, b => opLe a b
  | .gt, a, b => opGt a b
  | .ge, a, b => opGe a b
  | .isin, a, b => opIn a b
  | .notin, a, b => (opIn a b).map not
  | .isN, a, b => isD a b
  | .notN, a, b => (isD a b).map not
def ixOf (n : Nat) (i : Int) : Option Nat := if 0 ≤ i then (if i < n then some i.toNat else none) else if -(n : Int) ≤ i then some (i + n).toNat else none
def atD (xs : List D) (i : Int) : Option D := (ixOf xs.length i).bind fun j => xs[j]?
def opIdx : D → D → Option R
  | .list xs, .int i => (atD xs i).map .val
  | .tuple xs, .int i => (atD xs i).map .val
  | .dict kvs, .int i => (dfind (.int i) kvs).map .val
  | .dict kvs, .str x => (dfind (.str x) kvs).map .val
  | _, _ => none
def slIx (n d : Nat) : Option Int → Nat
  | none => d
  | some v => if v < 0 then (v + (n : Int)).toNat else min v.toNat n
def cutL {α : Type} (xs : List α) (lo hi : Option Int) : List α :=
  (xs.drop (slIx xs.length 0 lo)).take (slIx xs.length xs.length hi - slIx xs.length 0 lo)
def partOf : D → Option (Option Int)
  | .none => some none
  | .int i => some (some i)
  | _ => none
def opSl : D → Option Int → Option Int → Option R
  | .list xs, lo, hi => some (.new (cutL xs lo hi))
  | .tuple xs, lo, hi => some (.val (.tuple (cutL xs lo hi)))
  | _, _, _ => none
def opRev : D → Option R
  | .list xs => some (.new xs.reverse)
  | .tuple xs => some (.val (.tuple xs.reverse))
  | _ => none
def isTy : Ty → D → Bool
  | .int, .int _ => true
  | .int, .bool _ => true
  | .bool, .bool _ => true
  | .str, .str _ => true
  | .list, .list _ => true
  | .tuple, .tuple _ => true
  | .dict, .dict _ => true
  | _, _ => false
def truth : D → Option Bool
  | .none => some false
  | .bool b => some b
  | .int i => some (i != 0)
  | .str s => gd (decide (s.length ≤ Lim)) (s.length != 0)
  | .list xs => some (!xs.isEmpty)
  | .tuple xs => some (!xs.isEmpty)
  | .dict kvs => some (!kvs.isEmpty)
def intsOf : List D → Option (List Int)
  | [] => some []
  | .int i :: r => (intsOf r).map (i :: ·)
  | _ :: _ => none
def boolsOf : List D → Option (List Bool)
  | [] => some []
  | .bool i :: r => (boolsOf r).map (i :: ·)
  | _ :: _ => none
def allAlike (xs : List D) : Bool := xs.all fun x => !isNone x && xs.all fun y => W.alike x y
/-- sorted by <; equal ones stay in their order -/
def sortD (xs : List D) : List D := xs.mergeSort (W.dataLe false id)
def lenD : D → Option R
  | .list xs => some (.val (.int xs.length))
  | .tuple xs => some (.val (.int xs.length))
  | .str s => gd (decide (s.length ≤ Lim)) (.val (.int s.length))
  | .dict kvs => some (.val (.int kvs.length))
  | _ => none
def absD : D → Option R
  | .int i => some (.val (.int (if i < 0 then -i else i)))
  | _ => none
def intD : D → Option R
  | .int i => some (.val (.int i))
  | .bool b => some (.val (.int (if b then 1 else 0)))
  | _ => none
def boolD : D → Option R
  | .int i => some (.val (.bool (i != 0)))
  | .bool b => some (.val (.bool b))
  | _ => none
def strD : D → Option R
  | .int i => gd (decide (i.natAbs.log2 < 1920)) (.val (.str (toString i)))
  | _ => none
mutual
/-- each dict empty -/
def noList : D → Bool
  | .list xs => noLists xs
  | .tuple xs => noLists xs
  | .dict kvs => kvs.isEmpty
  | _ => true
def noLists : List D → Bool
  | [] => true
  | x :: xs => noList x && noLists xs
end
def boxed : D → Bool
  | .list _ => true
  | .tuple _ => true
  | _ => false
def okRepr (d : D) : Bool := d.showable && decide (d.shown.length ≤ Lim) && decide (d.depth ≤ 64) && (d.plain || noList d)
def reprD (d : D) : Option R := gd (okRepr d) (.val (.str d.shown))
def listD (d : D) : Option R := (seqOf d).map .new
def tupleD (d : D) : Option R := (seqOf d).map fun xs => .val (.tuple xs)
def sumD (d : D) : Option R := (seqOf d).bind fun xs => (intsOf xs).map fun ns => .val (.int ns.sum)
def anyD : D → Option R
  | .list xs => (boolsOf xs).map fun bs => .val (.bool (bs.any id))
  | _ => none
def allD : D → Option R
  | .list xs => (boolsOf xs).map fun bs => .val (.bool (bs.all id))
  | _ => none
def okOrd (xs : List D) : Bool := allAlike xs && PyData.plainAll xs && decide (PyData.depthAll xs ≤ 64)
def maxD (d : D) : Option R := (seqOf d).bind fun
  | [] => none
  | x :: r => gd (okOrd (x :: r)) (.val (W.maxD x r))
def minD (d : D) : Option R := (seqOf d).bind fun
  | [] => none
  | x :: r => gd (okOrd (x :: r)) (.val (W.minD x r))
def max2 : D → D → Option R
  | .int i, .int j => some (.val (.int (if j > i then j else i)))
  | _, _ => none
def min2 : D → D → Option R
  | .int i, .int j => some (.val (.int (if j < i then j else i)))
  | _, _ => none
/-- tuples with an item at least, or none a tuple -/
def okSort (xs : List D) : Bool := (xs.all fun | .tuple (_ :: _) => true | _ => false) || (xs.all fun | .tuple _ => false | .none => false | _ => true)
/-- the first of each -/
def nubI : List Int → List Int
  | [] => []
  | x :: xs => x :: (nubI xs).filter (· != x)
def insI (x : Int) : List Int → List Int
  | [] => [x]
  | y :: ys => if x < y then x :: y :: ys else if x = y then y :: ys else y :: insI x ys
def ssetI (ns : List Int) : List Int := ns.foldr insI []
def intsOfK : List (D × D) → Option (List Int)
  | [] => some []
  | (.int i, _) :: r => (intsOfK r).map (i :: ·)
  | _ :: _ => none
def sortedD : D → Option R
  | .list xs => gd (okOrd xs && okSort xs && decide (xs.length ≤ Lim)) (.new (sortD xs))
  | .dict kvs => (intsOfK kvs).bind fun ns => gd (decide ns.Nodup && decide (ns.length < 64)) (.new ((ssetI ns).map .int))
  | _ => none
def pairsOf : List D → Option (List (Int × Int))
  | [] => some []
  | .tuple [.int x, .int y] :: r => (pairsOf r).map ((x, y) :: ·)
  | _ :: _ => none
def okPair (p : Int × Int) : Bool := decide (0 ≤ p.1) && decide (p.1 < 64) && decide (0 ≤ p.2) && decide (p.2 < 64)
def codeP (p : Int × Int) : Int := p.1 * 64 + p.2
def pairD (c : Int) : D := .tuple [.int (c / 64), .int (c % 64)]
def pairsR (ps : List (Int × Int)) : Option R := gd (decide (ps.length < 64) && ps.all okPair) (.new ((ssetI (ps.map codeP)).map pairD))
def intsR (ns : List Int) : Option R := gd (decide (ns.length < 64)) (.new ((ssetI ns).map .int))
def ssetL (xs : List D) : Option R := match pairsOf xs with
  | some ps => pairsR ps
  | none => (intsOf xs).bind intsR
/-- sorted(set(xs)), xs of pairs, of ints -/
def ssetD : D → Option R
  | .list xs => ssetL xs
  | .tuple xs => ssetL xs
  | _ => none
/-- the attribute of a lot of these -/
def lotD (d : D) : Option (List D) := match ssetD d with
  | some (.new ys) => some ys
  | _ => none
def fmtD : D → Option R
  | .str s => gd (decide (s.length ≤ Lim)) (.val (.str s))
  | .int i => gd (decide (i.natAbs.log2 < 1920)) (.val (.str (toString i)))
  | _ => none
def rstripD : D → Option R
  | .str s => gd (decide (s.length ≤ Lim)) (.val (.str (Txt.rstrip s)))
  | _ => none
def propR (C f : Str) : R → Option R
  | .ob C' fs => if C' = C then (fs.lookup f).map .val else none
  | _ => none
def lenR (C f : Str) : R → Option R
  | .ob C' fs => if C' = C then (match fs.lookup f with
    | some (.tuple xs) => gd (decide (xs.length ≤ Lim)) (.val (.int xs.length))
    | _ => none) else none
  | _ => none
def isaR (C : Str) : R → Option R
  | .ob C' _ => if C' = C then some (.val (.bool true)) else none
  | _ => none
def eqR (neg : Bool) (C f : Str) : R → R → Option R
  | .ob C1 fs1, .ob C2 fs2 => if C1 = C ∧ C2 = C then (fs1.lookup f).bind fun d1 => (fs2.lookup f).bind fun d2 => (opCmp .eq d1 d2).map fun b => .val (.bool (b != neg)) else none
  | _, _ => none
def strsOf : List D → Option (List Str)
  | [] => some []
  | .str x :: r => (strsOf r).map (x :: ·)
  | _ :: _ => none
def joinD (s : Str) (d : D) : Option R := (seqOf d).bind fun xs => (strsOf xs).bind fun ys => gd (decide ((ys.map (·.length)).sum + ys.length * s.length ≤ Lim)) (.val (.str (Str.join s ys)))
def inrD (neg : Bool) : D → List D → Option R
  | .int i, [.int n] => some (.val (.bool (neg != (decide (0 ≤ i ∧ i < n)))))
  | .int i, [.int a, .int b] => some (.val (.bool (neg != (decide (a ≤ i ∧ i < b)))))
  | _, _ => none
def opB1 : Bi → D → Option R
  | .len => lenD
  | .abs => absD
  | .int => intD
  | .bool => boolD
  | .str => strD
  | .repr => reprD
  | .list => listD
  | .tuple => tupleD
  | .sum => sumD
  | .any => anyD
  | .all => allD
  | .max => maxD
  | .min => minD
  | .sorted => sortedD
  | _ => fun _ => none
def opB2 : Bi → D → D → Option R
  | .max => max2
  | .min => min2
  | _ => fun _ _ => none
def placeD (d : D) (xs : List D) : Option Nat := xs.findIdx? fun y => PyData.eqv y d
def indexD (c a : D) : Option R := (seqOf c).bind fun xs => if okEq a && PyData.plainAll xs then (placeD a xs).map fun j => .val (.int j) else none
def countD (c a : D) : Option R := (seqOf c).bind fun xs => gd (okEq a && PyData.plainAll xs) (.val (.int (xs.countP fun y => PyData.eqv y a)))
def opMe : Me → D → List D → Option R
  | .index, c, [a] => indexD c a
  | .count, c, [a] => countD c a
  | _, _, _ => none
/-- what a changing method gives back, and the list behind it -/
def opMu : Mu → List D → List D → Option (D × List D)
  | .append, xs, [d] => gd (decide (xs.length < Lim)) (.none, xs ++ [d])
  | .extend, xs, [.list ys] => gd (decide (xs.length + ys.length ≤ Lim)) (.none, xs ++ ys)
  | .pop, xs, [] => xs.getLast?.map fun y => (y, xs.dropLast)
  | .popAt, xs, [.int i] => gd (decide (i.natAbs < 2 ^ 62)) () |>.bind fun _ => (ixOf xs.length i).bind fun k => (xs[k]?).map fun y => (y, xs.eraseIdx k)
  | .reverse, xs, [] => some (.none, xs.reverse)
  | _, _, _ => none
end MI
namespace MI
open PySem
inductive FOut where
  | ret (r : M) (fin : List M)
  | ex (x : Xn) (fin : List M)
  | no
deriving Inhabited
/-- what a call gives back goes on; fuel of whiles -/
structure Cxt where
  φ : Nat → List M → FOut
  fuel : Nat
def Env.get (ρ : Env) (i : Nat) : Option M := (ρ[i]?).join
def M.cont : M → Option D
  | .sh d => some d
  | .ol _ xs => some (.list xs)
  | .od _ kvs => some (.dict kvs)
  | .ob _ _ => none
  | .sc _ => none
def M.isOwn : M → Bool
  | .ol _ _ => true
  | .od _ _ => true
  | _ => false
def M.pinned : M → Bool
  | .ol p _ => p
  | .od p _ => p
  | _ => false
def R.hold : R → R
  | .new xs => .val (.list xs)
  | .newd kvs => .val (.dict kvs)
  | r => r
def R.cont (ρ : Env) : R → Option D
  | .val d => some d
  | .new xs => some (.list xs)
  | .newd kvs => some (.dict kvs)
  | .own i => (ρ.get i).bind M.cont
  | .ob _ _ => none
  | .sc _ => none
/-- what may be cut: the script, too -/
def R.contS (ρ : Env) : R → Option D
  | .sc ns => some (.list (ns.map .int))
  | r => r.cont ρ
/-- shared from now on -/
def frz (r : R) (ρ : Env) : Out D := match r with
  | .val d => .ok d ρ
  | .new xs => .ok (.list xs) ρ
  | .newd kvs => .ok (.dict kvs) ρ
  | .own i => match ρ.get i with
    | some (.sh d) => .ok d ρ
    | some (.ol false xs) => .ok (.list xs) (ρ.set i (some (.sh (.list xs))))
    | some (.od false kvs) => .ok (.dict kvs) (ρ.set i (some (.sh (.dict kvs))))
    | _ => .no
  | .ob _ _ => .no
  | .sc _ => .no
def Out.frz (o : Out R) : Out D := o.bind MI.frz
def free (ρ : Env) (i : Nat) : Bool := i < ρ.length && match ρ.get i with
  | some m => !m.pinned
  | none => true
def putR (i : Nat) (r : R) (ρ : Env) : Out Unit := match r with
  | .new xs => if free ρ i then .ok () (ρ.set i (some (.ol false xs))) else .no
  | .newd kvs => if free ρ i then .ok () (ρ.set i (some (.od false kvs))) else .no
  | .ob C fs => if free ρ i then .ok () (ρ.set i (some (.ob C fs))) else .no
  | r => (MI.frz r ρ).bind fun d ρ => if free ρ i then .ok () (ρ.set i (some (.sh d))) else .no
mutual
def Tg.put (tg : Tg) (d : D) (ρ : Env) : Option Env := match tg with
  | .name i => gd (free ρ i) (ρ.set i (some (.sh d)))
  | .tup ts => match d with
    | .tuple ds => Tg.puts ts ds ρ
    | .list ds => Tg.puts ts ds ρ
    | _ => none
def Tg.puts (ts : List Tg) (ds : List D) (ρ : Env) : Option Env := match ts, ds with
  | [], [] => some ρ
  | t :: ts, d :: ds => (Tg.put t d ρ).bind (Tg.puts ts ds)
  | _, _ => none
end
mutual
def Tg.vars : Tg → List Nat
  | .name i => [i]
  | .tup ts => Tg.varss ts
def Tg.varss : List Tg → List Nat
  | [] => []
  | t :: ts => Tg.vars t ++ Tg.varss ts
end
def wipeE (ρ : Env) : List Nat → Env
  | [] => ρ
  | v :: vs => (wipeE ρ vs).set v none
def backE (ρ ρ0 : Env) : List Nat → Env
  | [] => ρ
  | v :: vs => (backE ρ ρ0 vs).set v (ρ0.get v)
def rngD (lo : Int) (n : Nat) (c : Int) : List D := (List.range n).map fun (k : Nat) => PyData.int (lo + (k : Int) * c)
def rngN (a b c : Int) : Nat := if 0 < c then (if a < b then ((b - a - 1) / c + 1).toNat else 0) else (if b < a then ((a - b - 1) / (-c) + 1).toNat else 0)
def small62 (i : Int) : Bool := decide (i.natAbs < 2 ^ 62)
def rngOf : List D → Option (List D)
  | [.int j] => gd (small62 j) (rngD 0 j.toNat 1)
  | [.int i, .int j] => gd (small62 i && small62 j) (rngD i (j - i).toNat 1)
  | [.int i, .int j, .int c] => gd (small62 i && small62 j && decide (c ≠ 0) && decide (c.natAbs < 1073741824)) (rngD i (rngN i j c) c)
  | _ => none
def enumD (i : Nat) : List D → List D
  | [] => []
  | d :: ds => .tuple [.int i, d] :: enumD (i + 1) ds
def zipD : List D → List D → List D
  | a :: as, b :: bs => .tuple [a, b] :: zipD as bs
  | _, _ => []
def lzipD : D → D → Option R
  | .tuple xs, .tuple ys => some (.new (zipD xs ys))
  | _, _ => none
def lstOf : D → Option (List D)
  | .list xs => some xs
  | _ => none
def zipOf : D → D → Option (List D)
  | .list xs, .list ys => some (zipD xs ys)
  | .tuple xs, .tuple ys => some (zipD xs ys)
  | .list xs, .tuple ys => some (zipD xs ys)
  | _, _ => none
def compL (f : D → Env → Out (Option D)) : List D → List D → Env → Out (List D)
  | [], acc, ρ => .ok acc ρ
  | d :: ds, acc, ρ => match f d ρ with
    | .ok (some x) ρ1 => if acc.length < Lim then compL f ds (acc ++ [x]) ρ1 else .no
    | .ok none ρ1 => compL f ds acc ρ1
    | _ => .no
inductive Fl where
  | next
  | ret (m : M)
  | brk
  | cont
deriving Inhabited
def forL (f : D → Env → Out Fl) : List D → Env → Out Fl
  | [], ρ => .ok .next ρ
  | d :: ds, ρ => match f d ρ with
    | .ok .next ρ1 => forL f ds ρ1
    | .ok .cont ρ1 => forL f ds ρ1
    | .ok .brk ρ1 => .ok .next ρ1
    | o => o
def whileL (c : Env → Out Bool) (b : Env → Out Fl) : Nat → Env → Out Fl
  | 0, _ => .no
  | n + 1, ρ => match c ρ with
    | .ok true ρ1 => (match b ρ1 with
      | .ok .next ρ2 => whileL c b n ρ2
      | .ok .cont ρ2 => whileL c b n ρ2
      | .ok .brk ρ2 => .ok .next ρ2
      | o => o)
    | .ok false ρ1 => .ok .next ρ1
    | .ex x ρ1 => .ex x ρ1
    | .no => .no
/-- an argument as the callee gets it -/
def R.arg (ρ : Env) : R → Option M
  | .val d => some (.sh d)
  | .own i => (ρ.get i).bind fun
    | .sh d => some (.sh d)
    | .ol _ xs => some (.ol true xs)
    | .od _ kvs => some (.od true kvs)
    | .ob C fs => some (.ob C fs)
    | .sc ns => some (.sc ns)
  | .ob C fs => some (.ob C fs)
  | .sc ns => some (.sc ns)
  | _ => none
def argsOf (ρ : Env) (rs : List R) : List Arg → Option (List M)
  | [] => some []
  | .e k :: as => (rs[k]?).bind fun r => (r.arg ρ).bind fun m => (argsOf ρ rs as).map (m :: ·)
  | .d x :: as => (argsOf ρ rs as).map (.sh x :: ·)
/-- the own names among the arguments, in the parameters' order -/
def ownsOf (ρ : Env) (rs : List R) : List Arg → List (Option Nat)
  | [] => []
  | .e k :: as => (match rs[k]? with
    | some (.own i) => if ((ρ.get i).map M.isOwn).getD false then some i else none
    | _ => none) :: ownsOf ρ rs as
  | .d _ :: as => none :: ownsOf ρ rs as
def backOf (ρ : Env) : List (Option Nat) → List M → Env
  | some i :: os, m :: fin => backOf (ρ.set i (match ρ.get i, m with
    | some (.ol p _), .ol _ xs => some (.ol p xs)
    | some (.od p _), .od _ kvs => some (.od p kvs)
    | _, _ => none)) os fin
  | none :: os, _ :: fin => backOf ρ os fin
  | _, _ => ρ
def M.res : M → R
  | .sh d => .val d
  | .ol _ xs => .new xs
  | .od _ kvs => .newd kvs
  | .ob C fs => .ob C fs
  | .sc ns => .sc ns
/-- what was lent comes back as what it was -/
def kinds : List M → List M → Bool
  | [], [] => true
  | m :: ms, m' :: fin => (match m, m' with
    | .ol _ _, .ol _ _ => true
    | .ol _ _, _ => false
    | .od _ _, .od _ _ => true
    | .od _ _, _ => false
    | _, _ => true) && kinds ms fin
  | _, _ => false
def srcOk (n : Nat) (src : List Arg) : Bool := decide ((src.filterMap fun | .e k => some k | .d _ => none).Nodup)
def callR (cx : Cxt) (f : Nat) (rs : List R) (src : List Arg) (ρ : Env) : Out R :=
  match argsOf ρ rs src with
  | none => .no
  | some ms =>
    let os := ownsOf ρ rs src
    if (os.filterMap id).Nodup ∧ srcOk rs.length src = true then
      match cx.φ f ms with
      | .ret m fin => if kinds ms fin then .ok m.res (backOf ρ os fin) else .no
      | .ex x fin => if kinds ms fin then .ex x (backOf ρ os fin) else .no
      | .no => .no
    else .no
/-- the contents, as they are now -/
def borrow (ρ : Env) (rs : List R) : List Arg → Option (List D)
  | [] => some []
  | .e k :: as => (rs[k]?).bind fun r => (r.cont ρ).bind fun d => (borrow ρ rs as).map (d :: ·)
  | .d x :: as => (borrow ρ rs as).map (x :: ·)
def atomD : D → Bool
  | .none => true
  | .bool _ => true
  | .int _ => true
  | .str _ => true
  | _ => false
mutual
/-- no list, no dict within -/
def tupD : D → Bool
  | .none => true
  | .bool _ => true
  | .int _ => true
  | .str _ => true
  | .tuple xs => tupDs xs
  | _ => false
def tupDs : List D → Bool
  | [] => true
  | x :: xs => tupD x && tupDs xs
end
/-- a call that reads own lists: they stay own; the result holds nothing of them -/
def callRB (cx : Cxt) (f : Nat) (rs : List R) (src : List Arg) (ρ : Env) : Out R :=
  match borrow ρ rs src with
  | none => .no
  | some ds => match cx.φ f (ds.map .sh) with
    | .ret (.sh d) _ => if tupD d then .ok (.val d) ρ else .no
    | .ret (.ol _ xs) _ => if xs.all atomD then .ok (.new xs) ρ else .no
    | _ => .no
def valsOf : List R → Option (List D)
  | [] => some []
  | .val d :: rs => (valsOf rs).map (d :: ·)
  | _ :: _ => none
def srcTo (n : Nat) : List Arg := (List.range n).map Arg.e
/-- a call of a def with a star parameter behind m others -/
def starR (cx : Cxt) (f m : Nat) (rs : List R) (ρ : Env) : Out R := match valsOf (rs.drop m) with
  | some ds => if m ≤ rs.length ∧ ds.length ≤ Lim then callR cx f (rs.take m ++ [.val (.tuple ds)]) (srcTo (m + 1)) ρ else .no
  | none => .no
def starD (d : D) (ρ : Env) : Out (List R) := Out.lift ((seqOf d).map fun ds => ds.map .val) ρ
def R.pass (ref : Bool) (r : R) (ρ : Env) : Out R := match r with
  | .ob C fs => .ok (.ob C fs) ρ
  | .sc ns => .ok (.sc ns) ρ
  | r => if ref then .ok r.hold ρ else (MI.frz r ρ).bind fun d ρ => .ok (.val d) ρ
/-- as an item of a display that is taken apart at once -/
def R.still (r : R) (ρ : Env) : Out R := match r with
  | .own i => (MI.frz (.own i) ρ).bind fun d ρ => .ok (.val d) ρ
  | r => .ok r ρ
def someInt (d : D) (ρ : Env) : Out (Option Int) := match d with
  | .int i => .ok (some i) ρ
  | _ => .no
/-- x in e, e of the class C, by the def i -/
def inOb (cx : Cxt) (neg : Bool) (C : Str) (i : Nat) (rx re : R) (ρ : Env) : Out R := match rx, re with
  | .val d, .ob C' fs => if C' = C then (match cx.φ i [.ob C fs, .sh d] with
    | .ret (.sh (.bool b)) _ => .ok (.val (.bool (b != neg))) ρ
    | _ => .no) else .no
  | _, _ => .no
def truthR (r : R) (ρ : Env) : Out Bool := Out.lift ((r.cont ρ).bind truth) ρ
mutual
def evE (cx : Cxt) (e : Ex) (ρ : Env) : Out R := match e with
  | .var i => match ρ.get i with
    | some (.sh d) => .ok (.val d) ρ
    | some (.ol _ _) => .ok (.own i) ρ
    | some (.od _ _) => .ok (.own i) ρ
    | some (.ob C fs) => .ok (.ob C fs) ρ
    | some (.sc ns) => .ok (.sc ns) ρ
    | none => .no
  | .int i => .ok (.val (.int i)) ρ
  | .str s => .ok (.val (.str (Str.ofString s))) ρ
  | .bl b => .ok (.val (.bool b)) ρ
  | .non => .ok (.val .none) ρ
  | .tup es => (evDs cx es ρ).bind fun ds ρ => if ds.length ≤ Lim then .ok (.val (.tuple ds)) ρ else .no
  | .lst es => (evDs cx es ρ).bind fun ds ρ => if ds.length ≤ Lim then .ok (.new ds) ρ else .no
  | .dct kvs => match kvs with
    | [] => .ok (.newd []) ρ
    | kvs => (evKs cx kvs ρ).bind fun ds ρ => if ds.all (fun p => isKey p.1) && decide (ds.length ≤ 15) then .ok (.newd (dputs [] ds)) ρ else .no
  | .neg a => (evE cx a ρ).bind fun r ρ => match r.cont ρ with
    | some (.int i) => .ok (.val (.int (-i))) ρ
    | _ => .no
  | .not a => ((evE cx a ρ).bind truthR).bind fun b ρ => .ok (.val (.bool (!b))) ρ
  | .bin o a b => (evE cx a ρ).bind fun ra ρ => (evE cx b ρ).bind fun rb ρ =>
      Out.lift ((ra.cont ρ).bind fun x => (rb.cont ρ).bind fun y => opBin o x y) ρ
  | .cmp o a b => (evE cx a ρ).bind fun ra ρ => (evE cx b ρ).bind fun rb ρ =>
      Out.lift ((ra.cont ρ).bind fun x => (rb.cont ρ).bind fun y => (opCmp o x y).map fun c => .val (.bool c)) ρ
  | .chain o p a b c => (evE cx a ρ).bind fun ra ρ => (evE cx b ρ).bind fun rb ρ =>
      (Out.lift ((ra.cont ρ).bind fun x => (rb.cont ρ).bind fun y => opCmp o x y) ρ).bind fun k ρ =>
        if k then (evE cx c ρ).bind fun rc ρ => Out.lift ((rb.cont ρ).bind fun y => (rc.cont ρ).bind fun z => (opCmp p y z).map fun c => .val (.bool c)) ρ
        else .ok (.val (.bool false)) ρ
  | .and a b => (evE cx a ρ).bind fun r ρ => match r with
    | .val (.bool true) => evE cx b ρ
    | .val (.bool false) => .ok (.val (.bool false)) ρ
    | _ => .no
  | .or a b => (evE cx a ρ).bind fun r ρ => match r with
    | .val (.bool false) => evE cx b ρ
    | .val (.bool true) => .ok (.val (.bool true)) ρ
    | _ => .no
  | .ite c a b => (evT cx c ρ).bind fun k ρ => if k then evE cx a ρ else evE cx b ρ
  | .idx a i => (evE cx a ρ).bind fun ra ρ => (evE cx i ρ).bind fun ri ρ =>
      Out.lift ((ra.cont ρ).bind fun x => (ri.cont ρ).bind fun y => opIdx x y) ρ
  | .sl a lo hi => (evE cx a ρ).bind fun ra ρ => (match lo with
      | none => Out.ok none ρ
      | some e => ((evE cx e ρ).bind MI.frz).bind someInt).bind fun l ρ => (match hi with
        | none => Out.ok none ρ
        | some e => ((evE cx e ρ).bind MI.frz).bind someInt).bind fun h ρ => Out.lift ((ra.contS ρ).bind fun x => opSl x l h) ρ
  | .rev a => (evE cx a ρ).bind fun ra ρ => Out.lift ((ra.cont ρ).bind opRev) ρ
  | .isa a ts _ => (evE cx a ρ).bind fun ra ρ => Out.lift ((ra.cont ρ).map fun d => .val (.bool (ts.any fun t => isTy t d))) ρ
  | .bi1 f a => (evE cx a ρ).bind fun ra ρ => Out.lift ((ra.cont ρ).bind (opB1 f)) ρ
  | .bi2 f a b => (evE cx a ρ).bind fun ra ρ => (evE cx b ρ).bind fun rb ρ => Out.lift ((ra.cont ρ).bind fun x => (rb.cont ρ).bind fun y => opB2 f x y) ρ
  | .me m a es => (evE cx a ρ).bind fun ra ρ => (evDs cx es ρ).bind fun ds ρ => Out.lift ((ra.cont ρ).bind fun x => opMe m x ds) ρ
  | .mu m i es => match ρ.get i with
    | some (.ol _ _) => (evDs cx es ρ).bind fun ds ρ => (match ρ.get i with
      | some (.ol p xs) => (match opMu m xs ds with
        | some (d, ys) => .ok (.val d) (ρ.set i (some (.ol p ys)))
        | none => .no)
      | _ => .no)
    | _ => .no
  | .call f es refs src => (evRs cx es refs ρ).bind fun rs ρ => callR cx f rs src ρ
  | .callB f es src => (evRs cx es [] ρ).bind fun rs ρ => callRB cx f rs src ρ
  | .callS f es st refs m => (evRs cx es refs ρ).bind fun rs ρ => (match st with
      | none => Out.ok [] ρ
      | some e => ((evE cx e ρ).bind MI.frz).bind starD).bind fun ss ρ => starR cx f m (rs ++ ss) ρ
  | .comp elt tg it cond => (evI cx it ρ).bind fun items ρ1 =>
      if tg.vars.all (fun v => v < ρ1.length && match ρ1.get v with | some m => !m.isOwn | none => true) then
        match compL (fun d ρ => match Tg.put tg d (wipeE ρ tg.vars) with
          | none => .no
          | some ρ => (match cond with
            | none => Out.ok true ρ
            | some c => evT cx c ρ).bind fun k ρ => if k then (((evE cx elt ρ).bind MI.frz).bind fun d ρ => .ok (some d) ρ) else .ok none ρ) items [] ρ1 with
        | .ok acc ρ2 => .ok (.new acc) (backE ρ2 ρ1 tg.vars)
        | _ => .no
      else .no
  | .glo _ d => .ok (.val d) ρ
  | .lit it t => (evI cx it ρ).bind fun items ρ => if items.length ≤ Lim then .ok (if t then .val (.tuple items) else .new items) ρ else .no
  | .sset e => (evE cx e ρ).bind fun r ρ => Out.lift ((r.cont ρ).bind ssetD) ρ
  | .lot C f e => ((evE cx e ρ).bind MI.frz).bind fun d ρ => Out.lift ((lotD d).map fun ys => R.ob (Str.ofString C) [(Str.ofString f, .tuple ys)]) ρ
  | .prop C f e => (evE cx e ρ).bind fun r ρ => Out.lift (propR (Str.ofString C) (Str.ofString f) r) ρ
  | .isaC C e => (evE cx e ρ).bind fun r ρ => Out.lift (isaR (Str.ofString C) r) ρ
  | .fld C f e => (evE cx e ρ).bind fun r ρ => Out.lift (propR (Str.ofString C) (Str.ofString f) r) ρ
  | .lenO C f e => (evE cx e ρ).bind fun r ρ => Out.lift (lenR (Str.ofString C) (Str.ofString f) r) ρ
  | .eqO neg C f a b => (evE cx a ρ).bind fun ra ρ => (evE cx b ρ).bind fun rb ρ => Out.lift (eqR neg (Str.ofString C) (Str.ofString f) ra rb) ρ
  | .inO neg C i x e => (evE cx x ρ).bind fun rx ρ => (evE cx e ρ).bind fun re ρ => inOb cx neg (Str.ofString C) i rx re ρ
  | .fmt e => (evE cx e ρ).bind fun r ρ => Out.lift ((r.cont ρ).bind fmtD) ρ
  | .fstr es => evJs cx es Str.empty ρ
  | .rstr e => (evE cx e ρ).bind fun r ρ => Out.lift ((r.cont ρ).bind rstripD) ρ
  | .lstS es e => (evDs cx es ρ).bind fun ds ρ => ((evE cx e ρ).bind MI.frz).bind fun d ρ => (Out.lift (seqOf d) ρ).bind fun ys ρ => if (ds ++ ys).length ≤ Lim then .ok (.new (ds ++ ys)) ρ else .no
  | .join s a => (evE cx a ρ).bind fun ra ρ => Out.lift ((ra.cont ρ).bind (joinD (Str.ofString s))) ρ
  | .lzip a b => ((evE cx a ρ).bind MI.frz).bind fun x ρ => ((evE cx b ρ).bind MI.frz).bind fun y ρ => Out.lift (lzipD x y) ρ
  | .inr neg a es => (evE cx a ρ).bind fun ra ρ => (evDs cx es ρ).bind fun ds ρ => Out.lift ((ra.cont ρ).bind fun x => inrD neg x ds) ρ
  | .bad => .no
def evT (cx : Cxt) (e : Ex) (ρ : Env) : Out Bool := match e with
  | .and a b => (evT cx a ρ).bind fun k ρ => if k then evT cx b ρ else .ok false ρ
  | .or a b => (evT cx a ρ).bind fun k ρ => if k then .ok true ρ else evT cx b ρ
  | .not a => (evT cx a ρ).bind fun b ρ => .ok (!b) ρ
  | e => (evE cx e ρ).bind truthR
def evDs (cx : Cxt) (es : List Ex) (ρ : Env) : Out (List D) := match es with
  | [] => .ok [] ρ
  | e :: es => ((evE cx e ρ).bind MI.frz).bind fun d ρ => (evDs cx es ρ).bind fun ds ρ => .ok (d :: ds) ρ
def evJs (cx : Cxt) (es : List Ex) (acc : Str) (ρ : Env) : Out R := match es with
  | [] => .ok (.val (.str acc)) ρ
  | e :: es => ((evE cx e ρ).bind MI.frz).bind fun d ρ => match d with
    | .str y => if (acc ++ y).length ≤ Lim then evJs cx es (acc ++ y) ρ else .no
    | _ => .no
def evKs (cx : Cxt) (es : List (Ex × Ex)) (ρ : Env) : Out (List (D × D)) := match es with
  | [] => .ok [] ρ
  | (a, b) :: es => ((evE cx a ρ).bind MI.frz).bind fun k ρ => ((evE cx b ρ).bind MI.frz).bind fun d ρ => (evKs cx es ρ).bind fun ds ρ => .ok ((k, d) :: ds) ρ
def evRs (cx : Cxt) (es : List Ex) (refs : List Bool) (ρ : Env) : Out (List R) := match es with
  | [] => .ok [] ρ
  | e :: es => ((evE cx e ρ).bind (R.pass (refs.headD true))).bind fun r ρ => (evRs cx es refs.tail ρ).bind fun rs ρ => .ok (r :: rs) ρ
def evI (cx : Cxt) (it : It) (ρ : Env) : Out (List D) := match it with
  | .seq e => ((evE cx e ρ).bind MI.frz).bind fun d ρ => Out.lift (seqOf d) ρ
  | .rng es => (evDs cx es ρ).bind fun ds ρ => Out.lift (rngOf ds) ρ
  | .enum e => ((evE cx e ρ).bind MI.frz).bind fun d ρ => Out.lift ((seqOf d).map (enumD 0)) ρ
  | .zip a b => ((evE cx a ρ).bind MI.frz).bind fun x ρ => ((evE cx b ρ).bind MI.frz).bind fun y ρ => Out.lift (zipOf x y) ρ
end
def retM (r : R) (ρ : Env) : Option M := match r with
  | .val d => some (.sh d)
  | .new xs => some (.ol false xs)
  | .newd kvs => some (.od false kvs)
  | .ob C fs => some (.ob C fs)
  | .sc _ => none
  | .own i => match ρ.get i with
    | some (.ol false xs) => some (.ol false xs)
    | some (.od false kvs) => some (.od false kvs)
    | some (.sh d) => some (.sh d)
    | _ => none
def intAt : Option D → Option Int
  | some (.int i) => some i
  | _ => none
def setR (i : Nat) (r : R) (ρ : Env) : Out Unit := if free ρ i then (match r with
  | .new xs => .ok () (ρ.set i (some (.ol false xs)))
  | .newd kvs => .ok () (ρ.set i (some (.od false kvs)))
  | .ob C fs => .ok () (ρ.set i (some (.ob C fs)))
  | .val d => .ok () (ρ.set i (some (.sh d)))
  | .sc _ => .no
  | .own _ => .no) else .no
mutual
def evS (cx : Cxt) (st : Sx) (ρ : Env) : Out Fl := match st with
  | .asg i e => ((evE cx e ρ).bind (putR i)).bind fun _ ρ => .ok .next ρ
  | .unp is e => ((evE cx e ρ).bind MI.frz).bind fun d ρ => Out.lift (Tg.put (.tup (is.map .name)) d ρ) ρ |>.bind fun ρ' _ => .ok .next ρ'
  | .setI i ix e => ((evE cx e ρ).bind MI.frz).bind fun d ρ => match ρ.get i with
    | some (.ol _ _) => (evE cx ix ρ).bind fun r ρ => (match ρ.get i, intAt (r.cont ρ) with
      | some (.ol p xs), some k => (match ixOf xs.length k with
        | some j => .ok .next (ρ.set i (some (.ol p (xs.set j d))))
        | none => .no)
      | _, _ => .no)
    | some (.od _ _) => (evE cx ix ρ).bind fun r ρ => (match ρ.get i, r.cont ρ with
      | some (.od p kvs), some k => if isKey k && decide (kvs.length < Lim) then .ok .next (ρ.set i (some (.od p (dput kvs k d)))) else .no
      | _, _ => .no)
    | _ => .no
  | .augI o i ix e => match ρ.get i with
    | some (.ol _ _) => (evE cx ix ρ).bind fun r ρ => (match ρ.get i, intAt (r.cont ρ) with
      | some (.ol _ xs), some k => (match atD xs k with
        | some old => (evE cx e ρ).bind fun rb ρ => (match intAt (some old), intAt (rb.cont ρ), ρ.get i with
          | some a, some b, some (.ol p ys) => (match opBin o (.int a) (.int b), ixOf ys.length k with
            | some (.val z), some j => .ok .next (ρ.set i (some (.ol p (ys.set j z))))
            | _, _ => .no)
          | _, _, _ => .no)
        | none => .no)
      | _, _ => .no)
    | _ => .no
  | .aug o i e => match ρ.get i with
    | some (.sh (.int a)) => (evE cx e ρ).bind fun rb ρ => (match intAt (rb.cont ρ), ρ.get i with
      | some b, some (.sh _) => (match opBin o (.int a) (.int b) with
        | some (.val z) => .ok .next (ρ.set i (some (.sh z)))
        | _ => .no)
      | _, _ => .no)
    | _ => .no
  | .par i j a b => ((evE cx a ρ).bind R.still).bind fun ra ρ => ((evE cx b ρ).bind R.still).bind fun rb ρ =>
      if i = j then .no else (setR i ra ρ).bind fun _ ρ => (setR j rb ρ).bind fun _ ρ => .ok .next ρ
  | .expr e => (evE cx e ρ).bind fun _ ρ => .ok .next ρ
  | .ret e => (evE cx e ρ).bind fun r ρ => match retM r ρ with
    | some m => .ok (.ret m) ρ
    | none => .no
  | .retN => .ok (.ret (.sh .none)) ρ
  | .ite c a b => (evT cx c ρ).bind fun k ρ => if k then evSs cx a ρ else evSs cx b ρ
  | .for tg it b => (evI cx it ρ).bind fun items ρ => forL (fun d ρ => match Tg.put tg d ρ with
    | none => .no
    | some ρ => evSs cx b ρ) items ρ
  | .while c b => whileL (evT cx c) (evSs cx b) cx.fuel ρ
  | .pass => .ok .next ρ
  | .brk => .ok .brk ρ
  | .cont => .ok .cont ρ
  | .tryN b => match evSs cx b ρ with
    | .ok fl ρ => .ok fl ρ
    | _ => .no
  | .raise C es => .no
def evSs (cx : Cxt) (sts : List Sx) (ρ : Env) : Out Fl := match sts with
  | [] => .ok .next ρ
  | st :: sts => (evS cx st ρ).bind fun f ρ => match f with
    | .next => evSs cx sts ρ
    | f => .ok f ρ
end
/-- a def -/
structure Fd where
  nP : Nat
  nS : Nat
  body : List Sx
deriving Inhabited
/-- the parameters' own things behind the body -/
def finOf (ρ : Env) : List M → Nat → Option (List M)
  | [], _ => some []
  | m :: ms, i => (if m.isOwn then (ρ.get i).bind fun m' => gd (m'.pinned) m' else some m).bind fun x => (finOf ρ ms (i + 1)).map (x :: ·)
def runB (cx : Cxt) (fd : Fd) (ms : List M) : FOut :=
  if ms.length = fd.nP ∧ fd.nP ≤ fd.nS ∧ (ms.all fun m => !m.isOwn || m.pinned) = true then
    match evSs cx fd.body (ms.map some ++ List.replicate (fd.nS - fd.nP) none) with
    | .ok f ρ => (match (match f with | .ret m => some m | .next => some (.sh .none) | _ => none), finOf ρ ms 0 with
      | some m, some fin => .ret m fin
      | _, _ => .no)
    | .ex x ρ => (match finOf ρ ms 0 with
      | some fin => .ex x fin
      | none => .no)
    | .no => .no
  else .no
def run (prog : List Fd) (fuel : Nat) : Nat → Nat → List M → FOut
  | 0, _, _ => .no
  | n + 1, f, ms => match prog[f]? with
    | some fd => runB ⟨run prog fuel n, fuel⟩ fd ms
    | none => .no
end MI
namespace MI
open PySem PySem.Spec PyProof.Rows L2
abbrev Fz := Addr → Prop
/-- a tuple of the written part -/
def KTup (K : PySem.W.Frag) (a : Addr) (xs : List V) : Prop :=
  ∃ (o : Obj) (its : Array Value) (n : Nat), K.lookup a = some o ∧ o.cls = .type "tuple" ∧ o.data = .seq its n ∧ its.size ≤ sizeLine ∧ Vals xs its.toList
/-- a list of the written part -/
def KLst (K : PySem.W.Frag) (a : Addr) (xs : List V) : Prop :=
  ∃ (o : Obj) (its : Array Value) (n : Nat), K.lookup a = some o ∧ o.cls = .type "list" ∧ o.dict = none ∧ o.data = .seq its n ∧ its.size ≤ sizeLine ∧ Vals xs its.toList
mutual
/-- v is the data d, all of it in F -/
inductive Dat (K : PySem.W.Frag) (F : Fz) (H : Hp) : V → D → Prop
  | non : Dat K F H .non .none
  | bl (b : Bool) : Dat K F H (.bl b) (.bool b)
  | int (i : Int) : Dat K F H (.int i) (.int i)
  | str (x : Str) : Dat K F H (.str x) (.str x)
  | lst {a : Addr} {xs : List V} {ds : List D} : F a → H a = some (.lst xs) → Dats K F H xs ds → Dat K F H (.ref a) (.list ds)
  | tup {a : Addr} {xs : List V} {ds : List D} : F a → H a = some (.tup xs) → Dats K F H xs ds → Dat K F H (.ref a) (.tuple ds)
  | ktup {a : Addr} {xs : List V} {ds : List D} : KTup K a xs → Dats K F H xs ds → Dat K F H (.ref a) (.tuple ds)
  | dK {a : Addr} {kvs : List (Key × V)} {ds : List (D × D)} : F a → H a = some (.dK kvs) → Dats K F H (kvs.map fun p => kV p.1) (ds.map (·.1)) → Dats K F H (kvs.map (·.2)) (ds.map (·.2)) → Dat K F H (.ref a) (.dict ds)
inductive Dats (K : PySem.W.Frag) (F : Fz) (H : Hp) : List V → List D → Prop
  | nil : Dats K F H [] []
  | cons {v : V} {vs : List V} {d : D} {ds : List D} : Dat K F H v d → Dats K F H vs ds → Dats K F H (v :: vs) (d :: ds)
end
variable {K : PySem.W.Frag} {F F' : Fz} {H H' : Hp} {O O' : Fz}
theorem Dats.length {K : PySem.W.Frag} {F : Fz} {H : Hp} : ∀ {vs : List V} {ds : List D}, Dats K F H vs ds → vs.length = ds.length
  | [], _, h => by cases h; rfl
  | v :: vs, _, h => by
    cases h with
    | cons a b => simp [Dats.length b]
theorem Dats.append : ∀ {vs ws : List V} {ds es : List D}, Dats K F H vs ds → Dats K F H ws es → Dats K F H (vs ++ ws) (ds ++ es)
  | [], _, _, _, h, k => by cases h; exact k
  | v :: vs, _, _, _, h, k => by
    cases h with
    | cons a b => exact .cons a (Dats.append b k)
theorem Dats.one {v : V} {d : D} (h : Dat K F H v d) : Dats K F H [v] [d] := .cons h .nil
theorem Dats.get : ∀ {vs : List V} {ds : List D} {i : Nat} {d : D}, Dats K F H vs ds → ds[i]? = some d → ∃ v, vs[i]? = some v ∧ Dat K F H v d
  | [], _, _, _, h, e => by cases h; simp at e
  | v :: vs, _, 0, _, h, e => by
    cases h with
    | cons a b => simp at e; subst e; exact ⟨v, rfl, a⟩
  | v :: vs, _, i + 1, _, h, e => by
    cases h with
    | cons a b => obtain ⟨w, h1, h2⟩ := Dats.get (i := i) b (by simpa using e); exact ⟨w, by simpa using h1, h2⟩
theorem Dats.get' : ∀ {vs : List V} {ds : List D} {i : Nat} {v : V}, Dats K F H vs ds → vs[i]? = some v → ∃ d, ds[i]? = some d ∧ Dat K F H v d
  | [], _, _, _, h, e => by simp at e
  | w :: vs, _, 0, _, h, e => by
    cases h with
    | cons a b => simp at e; subst e; exact ⟨_, rfl, a⟩
  | w :: vs, _, i + 1, _, h, e => by
    cases h with
    | cons a b => obtain ⟨d, h1, h2⟩ := Dats.get' (i := i) b (by simpa using e); exact ⟨d, by simpa using h1, h2⟩
theorem Dats.take : ∀ {vs : List V} {ds : List D} (n : Nat), Dats K F H vs ds → Dats K F H (vs.take n) (ds.take n)
  | _, _, 0, _ => by simpa using Dats.nil
  | [], _, n + 1, h => by cases h; simpa using Dats.nil
  | v :: vs, _, n + 1, h => by
    cases h with
    | cons a b => exact .cons a (Dats.take n b)
theorem Dats.drop : ∀ {vs : List V} {ds : List D} (n : Nat), Dats K F H vs ds → Dats K F H (vs.drop n) (ds.drop n)
  | _, _, 0, h => by simpa using h
  | [], _, n + 1, h => by cases h; simpa using Dats.nil
  | v :: vs, _, n + 1, h => by
    cases h with
    | cons a b => simpa using Dats.drop n b
theorem Dats.reverse : ∀ {vs : List V} {ds : List D}, Dats K F H vs ds → Dats K F H vs.reverse ds.reverse
  | [], _, h => by cases h; exact .nil
  | v :: vs, _, h => by
    cases h with
    | cons a b => simpa using Dats.append (Dats.reverse b) (.one a)
theorem Dats.set : ∀ {vs : List V} {ds : List D} (i : Nat) {v : V} {d : D}, Dats K F H vs ds → Dat K F H v d → Dats K F H (vs.set i v) (ds.set i d)
  | [], _, _, _, _, h, _ => by cases h; exact .nil
  | w :: vs, _, 0, _, _, h, k => by
    cases h with
    | cons a b => exact .cons k b
  | w :: vs, _, i + 1, _, _, h, k => by
    cases h with
    | cons a b => exact .cons a (Dats.set i b k)
theorem Dats.eraseIdx : ∀ {vs : List V} {ds : List D} (i : Nat), Dats K F H vs ds → Dats K F H (vs.eraseIdx i) (ds.eraseIdx i)
  | [], _, _, h => by cases h; exact .nil
  | w :: vs, _, 0, h => by
    cases h with
    | cons a b => exact b
  | w :: vs, _, i + 1, h => by
    cases h with
    | cons a b => exact .cons a (Dats.eraseIdx i b)
theorem Dats.rep {vs : List V} {ds : List D} (h : Dats K F H vs ds) : ∀ n : Nat, Dats K F H (List.replicate n vs).flatten (List.replicate n ds).flatten
  | 0 => by simpa using Dats.nil
  | n + 1 => by simpa [List.replicate_succ] using Dats.append h (Dats.rep h n)
theorem Dats.dropLast {vs : List V} {ds : List D} (h : Dats K F H vs ds) : Dats K F H vs.dropLast ds.dropLast := by
  rw [List.dropLast_eq_take, List.dropLast_eq_take, h.length]
  exact h.take _
/-- nothing in F changes -/
def Ext (F : Fz) (H : Hp) (F' : Fz) (H' : Hp) : Prop := ∀ a, F a → F' a ∧ H' a = H a
theorem Rd.ext {H H' : Hp} {a : Addr} {u : HO} (e : H' a = H a) (r : Rd H a u) : Rd H' a u := by
  unfold Rd at *
  rw [e]
  exact r
mutual
theorem Dat.ext (x : Ext F H F' H') : ∀ {v : V} {d : D}, Dat K F H v d → Dat K F' H' v d
  | _, _, .non => .non
  | _, _, .bl b => .bl b
  | _, _, .int i => .int i
  | _, _, .str s => .str s
  | _, _, .lst f r t => .lst (x _ f).1 ((x _ f).2.trans r) (Dats.ext x t)
  | _, _, .tup f r t => .tup (x _ f).1 ((x _ f).2.trans r) (Dats.ext x t)
  | _, _, .ktup r t => .ktup r (Dats.ext x t)
  | _, _, .dK f r t u => .dK (x _ f).1 ((x _ f).2.trans r) (Dats.ext x t) (Dats.ext x u)
theorem Dats.ext (x : Ext F H F' H') : ∀ {vs : List V} {ds : List D}, Dats K F H vs ds → Dats K F' H' vs ds
  | _, _, .nil => .nil
  | _, _, .cons a b => .cons (Dat.ext x a) (Dats.ext x b)
end
/-- data at the top of which may stand a thing of one's own -/
inductive Dat1 (K : PySem.W.Frag) (F : Fz) (H : Hp) : V → D → Prop
  | sh {v : V} {d : D} : Dat K F H v d → Dat1 K F H v d
  | ol {a : Addr} {vs : List V} {xs : List D} : H a = some (.lst vs) → Dats K F H vs xs → Dat1 K F H (.ref a) (.list xs)
  | od {a : Addr} {kvs : List (Key × V)} {ds : List (D × D)} : H a = some (.dK kvs) → Dats K F H (kvs.map fun p => kV p.1) (ds.map (·.1)) → Dats K F H (kvs.map (·.2)) (ds.map (·.2)) → Dat1 K F H (.ref a) (.dict ds)
/-! ### one step -/
structure Stp (F : Fz) (H : Hp) (O : Fz) (F' : Fz) (H' : Hp) (O' : Fz) : Prop where
  fz : ∀ a, F a → F' a
  fz' : ∀ a, F' a → F a ∨ H a = none ∨ O a
  ow : ∀ a, O' a → O a ∨ H a = none
  hp : ∀ a, H a ≠ none → ¬ O a → H' a = H a
  all : ∀ a, H a ≠ none → H' a ≠ none
theorem Stp.refl : Stp F H O F H O := ⟨fun _ h => h, fun _ h => .inl h, fun _ h => .inl h, fun _ _ _ => rfl, fun _ h => h⟩
theorem Stp.none {F F1 : Fz} {H H1 : Hp} {O O1 : Fz} (a : Stp F H O F1 H1 O1) {b : Addr} (h : H1 b = none) : H b = none := by
  cases q : H b with
  | none => rfl
  | some o => exact absurd h (a.all b (by rw [q]; simp))
theorem Stp.trans {F F1 F2 : Fz} {H H1 H2 : Hp} {O O1 O2 : Fz} (a : Stp F H O F1 H1 O1) (b : Stp F1 H1 O1 F2 H2 O2) : Stp F H O F2 H2 O2 where
  fz := fun c h => b.fz c (a.fz c h)
  fz' := fun c h => by
    rcases b.fz' c h with h | h | h
    · exact a.fz' c h
    · exact .inr (.inl (a.none h))
    · rcases a.ow c h with h | h
      · exact .inr (.inr h)
      · exact .inr (.inl h)
  ow := fun c h => by
    rcases b.ow c h with h | h
    · exact a.ow c h
    · exact .inr (a.none h)
  hp := fun c h n => by
    have e := a.hp c h n
    rw [← e]
    refine b.hp c (a.all c h) fun q => ?_
    rcases a.ow c q with q | q
    · exact n q
    · exact h q
  all := fun c h => b.all c (a.all c h)
/-- an object whose attributes never change -/
def RepOb (K : PySem.W.Frag) (F : Fz) (H : Hp) (v : V) (C : Str) (fs : List (Str × D)) : Prop :=
  ∃ a dx fvs, v = .ref a ∧ F a ∧ H a = some (.ins (He.ga K C) dx fvs) ∧ fvs.map (·.1) = fs.map (·.1) ∧ Dats K F H (fvs.map (·.2)) (fs.map (·.2))
theorem RepOb.ext {v : V} {C : Str} {fs : List (Str × D)} (x : Ext F H F' H') (h : RepOb K F H v C fs) : RepOb K F' H' v C fs := by
  obtain ⟨a, dx, fvs, e, f, ha, hn, hd⟩ := h
  exact ⟨a, dx, fvs, e, (x a f).1, (x a f).2.trans ha, hn, Dats.ext x hd⟩
/-- what a name holds -/
def RepM (K : PySem.W.Frag) (F : Fz) (H : Hp) (O : Fz) (v : V) : M → Prop
  | .sh d => Dat K F H v d
  | .ol _ xs => ∃ a vs, v = .ref a ∧ O a ∧ H a = some (.lst vs) ∧ Dats K F H vs xs
  | .od _ ds => ∃ a kvs, v = .ref a ∧ O a ∧ H a = some (.dK kvs) ∧ Dats K F H (kvs.map fun p => kV p.1) (ds.map (·.1)) ∧ Dats K F H (kvs.map (·.2)) (ds.map (·.2))
  | .ob C fs => RepOb K F H v C fs
  | .sc ns => ∃ a, v = .ref a ∧ ((F a ∧ Rd H a (.lst (ns.map V.int))) ∨ KLst K a (ns.map V.int))
structure StI (K : PySem.W.Frag) (F : Fz) (H : Hp) (O : Fz) (σ : L2.St) (ρ : Env) : Prop where
  len : σ.length = ρ.length
  var : ∀ i m, ρ.get i = some m → ∃ v, σ[i]? = some (some v) ∧ RepM K F H O v m
  dom : ∀ a, F a → H a ≠ none
  odom : ∀ a, O a → H a ≠ none ∧ ¬ F a
  sep : ∀ i j a m m', i ≠ j → ρ.get i = some m → ρ.get j = some m' → m.isOwn = true → m'.isOwn = true → σ[i]? = some (some (.ref a)) → σ[j]? = some (some (.ref a)) → False
/-- pinned ones stay pinned -/
def Pin (ρ ρ' : Env) : Prop := ρ'.length = ρ.length ∧ ∀ i m, ρ.get i = some m → m.pinned = true → ∃ m', ρ'.get i = some m' ∧ m'.pinned = true
theorem Pin.refl (ρ : Env) : Pin ρ ρ := ⟨rfl, fun _ m h p => ⟨m, h, p⟩⟩
theorem Pin.trans {ρ ρ1 ρ2 : Env} (a : Pin ρ ρ1) (b : Pin ρ1 ρ2) : Pin ρ ρ2 := ⟨b.1.trans a.1, fun i m h p => by
  obtain ⟨m1, h1, p1⟩ := a.2 i m h p
  exact b.2 i m1 h1 p1⟩
/-- what an expression gives; H0: the heap at its start -/
def RepR (K : PySem.W.Frag) (H0 : Hp) (F : Fz) (H : Hp) (O : Fz) (σ : L2.St) (v : V) : R → Prop
  | .val d => Dat K F H v d
  | .new xs => ∃ a vs, v = .ref a ∧ ¬ F a ∧ ¬ O a ∧ H0 a = none ∧ H a = some (.lst vs) ∧ Dats K F H vs xs
  | .newd ds => ∃ a kvs, v = .ref a ∧ ¬ F a ∧ ¬ O a ∧ H0 a = none ∧ H a = some (.dK kvs) ∧ Dats K F H (kvs.map fun p => kV p.1) (ds.map (·.1)) ∧ Dats K F H (kvs.map (·.2)) (ds.map (·.2))
  | .own i => σ[i]? = some (some v)
  | .ob C fs => RepOb K F H v C fs
  | .sc ns => ∃ a, v = .ref a ∧ ((F a ∧ Rd H a (.lst (ns.map V.int))) ∨ KLst K a (ns.map V.int))
theorem StI.ext {σ : L2.St} {ρ : Env} (S : StI K F H O σ ρ) (t : Stp F H O F' H' O') : Ext F H F' H' := fun a f => ⟨t.fz a f, t.hp a (S.dom a f) fun o => (S.odom a o).2 f⟩
theorem RepR.stp {H0 : Hp} {σ : L2.St} {ρ : Env} {v : V} {r : R} (S : StI K F H O σ ρ) (t : Stp F H O F' H' O') (h : RepR K H0 F H O σ v r) : RepR K H0 F' H' O' σ v r := by
  have x := S.ext t
  have keep : ∀ a (o : HO), ¬ F a → ¬ O a → H a = some o → ¬ F' a ∧ ¬ O' a ∧ H' a = some o := fun a o nf no e => by
    have ne : H a ≠ none := by rw [e]; simp
    refine ⟨fun q => ?_, fun q => ?_, (t.hp a ne no).trans e⟩
    · rcases t.fz' a q with q | q | q
      · exact nf q
      · exact ne q
      · exact no q
    · rcases t.ow a q with q | q
      · exact no q
      · exact ne q
  cases r with
  | val d => exact Dat.ext x h
  | new xs =>
    obtain ⟨a, vs, e, nf, no, h0, ha, hd⟩ := h
    obtain ⟨k1, k2, k3⟩ := keep a _ nf no ha
    exact ⟨a, vs, e, k1, k2, h0, k3, Dats.ext x hd⟩
  | newd ds =>
    obtain ⟨a, kvs, e, nf, no, h0, ha, hd, hd2⟩ := h
    obtain ⟨k1, k2, k3⟩ := keep a _ nf no ha
    exact ⟨a, kvs, e, k1, k2, h0, k3, Dats.ext x hd, Dats.ext x hd2⟩
  | own i => exact h
  | ob C fs => exact RepOb.ext x h
  | sc ns =>
    obtain ⟨a, e, h⟩ := h
    rcases h with ⟨f, r⟩ | r
    · exact ⟨a, e, .inl ⟨(x a f).1, Rd.ext (x a f).2 r⟩⟩
    · exact ⟨a, e, .inr r⟩
theorem RepR.from {H0 H1 : Hp} {σ : L2.St} {v : V} {r : R} (k : ∀ a, H1 a = none → H0 a = none) (h : RepR K H1 F H O σ v r) : RepR K H0 F H O σ v r := by
  cases r with
  | val d => exact h
  | new xs => obtain ⟨a, vs, e, nf, no, h0, r⟩ := h; exact ⟨a, vs, e, nf, no, k a h0, r⟩
  | newd ds => obtain ⟨a, vs, e, nf, no, h0, r⟩ := h; exact ⟨a, vs, e, nf, no, k a h0, r⟩
  | own i => exact h
  | ob C fs => exact h
  | sc ns => exact h
theorem cont_ok {H0 : Hp} {σ : L2.St} {ρ : Env} {v : V} {r : R} {d : D} (S : StI K F H O σ ρ) (h : RepR K H0 F H O σ v r) (e : r.cont ρ = some d) : Dat1 K F H v d := by
  cases r with
  | val x => cases e; exact .sh h
  | new xs => cases e; obtain ⟨a, vs, rfl, _, _, _, ha, hd⟩ := h; exact .ol ha hd
  | newd ds => cases e; obtain ⟨a, vs, rfl, _, _, _, ha, hd, hd2⟩ := h; exact .od ha hd hd2
  | own i =>
    change (ρ.get i).bind M.cont = some d at e
    cases q : ρ.get i with
    | none => rw [q] at e; cases e
    | some m =>
      rw [q] at e
      obtain ⟨w, hw, rm⟩ := S.var i m q
      have ew : w = v := by
        have := hw.symm.trans h
        simpa using this
      subst ew
      cases m with
      | sh x => cases e; exact .sh rm
      | ol p xs => cases e; obtain ⟨a, vs, rfl, _, ha, hd⟩ := rm; exact .ol ha hd
      | od p xs => cases e; obtain ⟨a, vs, rfl, _, ha, hd, hd2⟩ := rm; exact .od ha hd hd2
      | ob C fs => cases e
      | sc ns => cases e
  | ob C fs => cases e
  | sc ns => cases e
/-- .. or the script -/
inductive Dat2 (K : PySem.W.Frag) (F : Fz) (H : Hp) : V → D → Prop
  | sh {v : V} {d : D} : Dat1 K F H v d → Dat2 K F H v d
  | sc {a : Addr} {ns : List Int} : SqL K H a (ns.map V.int) → Dat2 K F H (.ref a) (.list (ns.map .int))
theorem contS_ok {H0 : Hp} {σ : L2.St} {ρ : Env} {v : V} {r : R} {d : D} (S : StI K F H O σ ρ) (h : RepR K H0 F H O σ v r) (e : r.contS ρ = some d) : Dat2 K F H v d := by
  cases r with
  | sc ns =>
    cases e
    obtain ⟨a, rfl, h⟩ := h
    rcases h with ⟨_, r⟩ | r
    · exact .sc (.inl r)
    · exact .sc (.inr r)
  | val x => exact .sh (cont_ok S h e)
  | new x => exact .sh (cont_ok S h e)
  | newd x => exact .sh (cont_ok S h e)
  | own x => exact .sh (cont_ok S h e)
  | ob C fs => exact .sh (cont_ok S h e)
end MI
namespace MI
open PySem PySem.Spec PyProof.Rows L2
variable {K : PySem.W.Frag} {F F' : Fz} {H H' : Hp} {O O' : Fz} {σ : L2.St} {ρ ρ' : Env}
theorem get_set_self {i : Nat} {x : Option M} (h : i < ρ.length) : Env.get (ρ.set i x) i = x := by
  unfold Env.get
  rw [List.getElem?_set_self h]
  rfl
theorem get_set_ne {i j : Nat} {x : Option M} (h : i ≠ j) : Env.get (ρ.set i x) j = ρ.get j := by
  unfold Env.get
  rw [List.getElem?_set_ne h]
theorem get_lt {i : Nat} {m : M} (h : ρ.get i = some m) : i < ρ.length := by
  rcases Nat.lt_or_ge i ρ.length with q | q
  · exact q
  · unfold Env.get at h
    rw [List.getElem?_eq_none q] at h
    cases h
theorem get_set_cases {i j : Nat} {x : Option M} {m : M} (h : Env.get (ρ.set i x) j = some m) : (i = j ∧ x = some m) ∨ (i ≠ j ∧ ρ.get j = some m) := by
  by_cases e : i = j
  · subst e
    have hl : i < (ρ.set i x).length := get_lt h
    rw [List.length_set] at hl
    rw [get_set_self hl] at h
    exact .inl ⟨rfl, h⟩
  · rw [get_set_ne e] at h
    exact .inr ⟨e, h⟩
theorem Pin.set {i : Nat} {x : Option M} (h : ∀ m, ρ.get i = some m → m.pinned = true → ∃ m', x = some m' ∧ m'.pinned = true) : Pin ρ (ρ.set i x) := by
  refine ⟨List.length_set .., fun j m e p => ?_⟩
  by_cases q : i = j
  · subst q
    obtain ⟨m', rfl, p'⟩ := h m e p
    exact ⟨m', get_set_self (get_lt e), p'⟩
  · exact ⟨m, by rw [get_set_ne q]; exact e, p⟩
theorem Dat.sub (x : ∀ a, F a → F' a) {v : V} {d : D} (h : Dat K F H v d) : Dat K F' H v d := Dat.ext (fun a f => ⟨x a f, rfl⟩) h
theorem Dats.sub (x : ∀ a, F a → F' a) {vs : List V} {ds : List D} (h : Dats K F H vs ds) : Dats K F' H vs ds := Dats.ext (fun a f => ⟨x a f, rfl⟩) h
theorem RepM.mono {v : V} {m : M} (x : ∀ a, F a → F' a) (y : ∀ a, v = .ref a → m.isOwn = true → O a → O' a) (h : RepM K F H O v m) : RepM K F' H O' v m := by
  cases m with
  | sh d => exact Dat.sub x h
  | ol p xs => obtain ⟨a, vs, e, o, ha, hd⟩ := h; exact ⟨a, vs, e, y a e rfl o, ha, Dats.sub x hd⟩
  | od p xs => obtain ⟨a, vs, e, o, ha, hd, hd2⟩ := h; exact ⟨a, vs, e, y a e rfl o, ha, Dats.sub x hd, Dats.sub x hd2⟩
  | ob C fs => exact RepOb.ext (fun a f => ⟨x a f, rfl⟩) h
  | sc ns =>
    obtain ⟨a, e, h⟩ := h
    rcases h with ⟨f, r⟩ | r
    · exact ⟨a, e, .inl ⟨x a f, r⟩⟩
    · exact ⟨a, e, .inr r⟩
/-- what an own one stands at -/
theorem RepM.own {v : V} {m : M} (h : RepM K F H O v m) (o : m.isOwn = true) : ∃ a, v = .ref a ∧ O a := by
  cases m with
  | sh d => cases o
  | ol p xs => obtain ⟨a, vs, e, o, _⟩ := h; exact ⟨a, e, o⟩
  | od p xs => obtain ⟨a, vs, e, o, _⟩ := h; exact ⟨a, e, o⟩
  | ob C fs => cases o
  | sc ns => cases o
theorem StI.more (S : StI K F H O σ ρ) (G : Fz) (g : ∀ a, G a → H a ≠ none ∧ ¬ O a) : StI K (fun a => F a ∨ G a) H O σ ρ := by
  refine ⟨S.len, fun i m e => ?_, fun a f => ?_, fun a o => ⟨(S.odom a o).1, fun f => ?_⟩, S.sep⟩
  · obtain ⟨v, h1, h2⟩ := S.var i m e
    exact ⟨v, h1, h2.mono (fun a => .inl) fun _ _ _ h => h⟩
  · rcases f with f | f
    · exact S.dom a f
    · exact (g a f).1
  · rcases f with f | f
    · exact (S.odom a o).2 f
    · exact (g a f).2 o
/-- a name's own thing is shared from now on -/
theorem StI.give {i : Nat} {m : M} {a : Addr} {d : D} (S : StI K F H O σ ρ) (e : ρ.get i = some m) (o : m.isOwn = true) (hv : σ[i]? = some (some (.ref a))) (hd : Dat K (fun b => F b ∨ b = a) H (.ref a) d) :
    StI K (fun b => F b ∨ b = a) H (fun b => O b ∧ b ≠ a) σ (ρ.set i (some (.sh d))) := by
  have oa : O a := by
    obtain ⟨v, h1, h2⟩ := S.var i m e
    obtain ⟨b, h3, h4⟩ := h2.own o
    rw [hv] at h1
    cases h1
    cases h3
    exact h4
  refine ⟨by rw [List.length_set]; exact S.len, fun j m' ej => ?_, fun b f => ?_, fun b q => ?_, fun j k b m1 m2 ne e1 e2 o1 o2 h1 h2 => ?_⟩
  · rcases get_set_cases ej with ⟨rfl, q⟩ | ⟨ne, q⟩
    · cases q
      exact ⟨_, hv, hd⟩
    · obtain ⟨v, h1, h2⟩ := S.var j m' q
      refine ⟨v, h1, h2.mono (fun _ => .inl) fun b eb ob o' => ⟨o', fun eba => ?_⟩⟩
      subst eba
      subst eb
      exact S.sep i j b m m' ne e q o ob hv h1
  · rcases f with f | rfl
    · exact S.dom b f
    · exact (S.odom b oa).1
  · refine ⟨(S.odom b q.1).1, fun f => ?_⟩
    rcases f with f | f
    · exact (S.odom b q.1).2 f
    · exact q.2 f
  · rcases get_set_cases e1 with ⟨rfl, q⟩ | ⟨n1, q1⟩
    · cases q; cases o1
    · rcases get_set_cases e2 with ⟨rfl, q⟩ | ⟨n2, q2⟩
      · cases q; cases o2
      · exact S.sep j k b m1 m2 ne q1 q2 o1 o2 h1 h2
/-- what freezing does -/
structure FrzOk (K : PySem.W.Frag) (H0 : Hp) (F : Fz) (H : Hp) (O : Fz) (σ : L2.St) (ρ : Env) (v : V) (d : D) (ρ' : Env) (F' O' : Fz) : Prop where
  st : StI K F' H O' σ ρ'
  dat : Dat K F' H v d
  pin : Pin ρ ρ'
  fz : ∀ a, F a → F' a
  fz' : ∀ a, F' a → F a ∨ H0 a = none ∨ O a
  ow : ∀ a, O' a → O a
theorem frz_ok {H0 : Hp} {v : V} {r : R} {d : D} (S : StI K F H O σ ρ) (h : RepR K H0 F H O σ v r) (e : MI.frz r ρ = .ok d ρ') : ∃ F' O', FrzOk K H0 F H O σ ρ v d ρ' F' O' := by
  cases r with
  | val x =>
    cases e
    exact ⟨F, O, S, h, .refl _, fun _ h => h, fun _ h => .inl h, fun _ h => h⟩
  | new xs =>
    cases e
    obtain ⟨a, vs, rfl, nf, no, h0, ha, hd⟩ := h
    refine ⟨fun b => F b ∨ b = a, O, S.more _ fun b eb => ?_, .lst (.inr rfl) ha (Dats.sub (fun _ => .inl) hd), .refl _, fun _ => .inl, fun b f => ?_, fun _ h => h⟩
    · subst eb; exact ⟨by rw [ha]; simp, no⟩
    · rcases f with f | rfl
      · exact .inl f
      · exact .inr (.inl h0)
  | newd xs =>
    cases e
    obtain ⟨a, vs, rfl, nf, no, h0, ha, hd, hd2⟩ := h
    refine ⟨fun b => F b ∨ b = a, O, S.more _ fun b eb => ?_, .dK (.inr rfl) ha (Dats.sub (fun _ => .inl) hd) (Dats.sub (fun _ => .inl) hd2), .refl _, fun _ => .inl, fun b f => ?_, fun _ h => h⟩
    · subst eb; exact ⟨by rw [ha]; simp, no⟩
    · rcases f with f | rfl
      · exact .inl f
      · exact .inr (.inl h0)
  | own i =>
    unfold MI.frz at e
    cases q : ρ.get i with
    | none => simp only [q] at e; cases e
    | some m =>
      simp only [q] at e
      obtain ⟨w, hw, rm⟩ := S.var i m q
      have ew : w = v := by
        have := hw.symm.trans h
        simpa using this
      subst ew
      cases m with
      | sh x =>
        cases e
        exact ⟨F, O, S, rm, .refl _, fun _ h => h, fun _ h => .inl h, fun _ h => h⟩
      | ol p xs =>
        cases p with
        | true => cases e
        | false =>
          cases e
          obtain ⟨a, vs, rfl, oa, ha, hd⟩ := rm
          have dd : Dat K (fun b => F b ∨ b = a) H (.ref a) (.list xs) := .lst (.inr rfl) ha (Dats.sub (fun _ => .inl) hd)
          refine ⟨_, _, S.give q rfl hw dd, dd, .set fun m e p => ?_, fun _ => .inl, fun b f => ?_, fun _ h => h.1⟩
          · rw [q] at e; cases e; cases p
          · rcases f with f | rfl
            · exact .inl f
            · exact .inr (.inr oa)
      | od p xs =>
        cases p with
        | true => cases e
        | false =>
          cases e
          obtain ⟨a, vs, rfl, oa, ha, hd, hd2⟩ := rm
          have dd : Dat K (fun b => F b ∨ b = a) H (.ref a) (.dict xs) := .dK (.inr rfl) ha (Dats.sub (fun _ => .inl) hd) (Dats.sub (fun _ => .inl) hd2)
          refine ⟨_, _, S.give q rfl hw dd, dd, .set fun m e p => ?_, fun _ => .inl, fun b f => ?_, fun _ h => h.1⟩
          · rw [q] at e; cases e; cases p
          · rcases f with f | rfl
            · exact .inl f
            · exact .inr (.inr oa)
      | ob C fs => cases e
      | sc ns => cases e
  | ob C fs => cases e
  | sc ns => cases e
theorem FrzOk.stp {H0 : Hp} {F0 O0 : Fz} {v : V} {d : D} (z : FrzOk K H0 F H O σ ρ v d ρ' F' O') (t : Stp F0 H0 O0 F H O) : Stp F0 H0 O0 F' H O' where
  fz := fun a f => z.fz a (t.fz a f)
  fz' := fun a f => by
    rcases z.fz' a f with f | f | f
    · exact t.fz' a f
    · exact .inr (.inl f)
    · rcases t.ow a f with f | f
      · exact .inr (.inr f)
      · exact .inr (.inl f)
  ow := fun a o => t.ow a (z.ow a o)
  hp := t.hp
  all := t.all
/-- what a frz'd exception or nothing: frz never raises -/
theorem frz_ex {r : R} {x : Xn} (e : MI.frz r ρ = .ex x ρ') : False := by
  unfold MI.frz at e
  split at e <;> first | cases e | (split at e <;> cases e)
/-! ### what is wanted behind a piece -/
/-- how an exception lies (no objects yet) -/
abbrev XRep := Fz → Hp → Value → Option Addr → Xn → Prop
structure World1 where
  K : PySem.W.Frag
  xr : XRep
def WantG {α β : Type} (K : PySem.W.Frag) (xr : XRep) (W : WX) (rep : Fz → Hp → Fz → β → α → Prop) (σ : L2.St) (F : Fz) (H : Hp) (O : Fz) (ρ : Env) (o : Out α) (Q : β → Hp → Prop) : Prop := match o with
  | .ok a ρ' => ∀ F' H' O' b, StI K F' H' O' σ ρ' → Stp F H O F' H' O' → Pin ρ ρ' → rep F' H' O' b a → Q b H'
  | .ex x ρ' => ∀ F' H' O' cls d, StI K F' H' O' σ ρ' → Stp F H O F' H' O' → Pin ρ ρ' → xr F' H' cls d x → W cls d σ H'
  | .no => False
abbrev WantE (K : PySem.W.Frag) (xr : XRep) (W : WX) (σ : L2.St) (F : Fz) (H : Hp) (O : Fz) (ρ : Env) (o : Out R) (Q : VK) : Prop :=
  WantG K xr W (fun F' H' O' v r => RepR K H F' H' O' σ v r) σ F H O ρ o Q
abbrev WantD (K : PySem.W.Frag) (xr : XRep) (W : WX) (σ : L2.St) (F : Fz) (H : Hp) (O : Fz) (ρ : Env) (o : Out D) (Q : VK) : Prop :=
  WantG K xr W (fun F' H' O' v d => Dat K F' H' v d) σ F H O ρ o Q
abbrev WantB (K : PySem.W.Frag) (xr : XRep) (W : WX) (σ : L2.St) (F : Fz) (H : Hp) (O : Fz) (ρ : Env) (o : Out Bool) (Q : Bool → Hp → Prop) : Prop :=
  WantG K xr W (fun _ _ _ b a => b = a) σ F H O ρ o Q
abbrev WantDs (K : PySem.W.Frag) (xr : XRep) (W : WX) (σ : L2.St) (F : Fz) (H : Hp) (O : Fz) (ρ : Env) (o : Out (List D)) (Q : List V → Hp → Prop) : Prop :=
  WantG K xr W (fun F' H' O' vs ds => Dats K F' H' vs ds) σ F H O ρ o Q
/-- a step first: what is wanted behind the rest -/
theorem WantG.after {α β : Type} {xr : XRep} {W : WX} {rep : Fz → Hp → Fz → β → α → Prop} {o : Out α} {Q : β → Hp → Prop} (h : WantG K xr W rep σ F H O ρ o Q) (t : Stp F H O F' H' O') (p : Pin ρ ρ') : WantG K xr W rep σ F' H' O' ρ' o Q := by
  cases o with
  | ok a ρ2 => exact fun F2 H2 O2 b S2 t2 p2 r => h F2 H2 O2 b S2 (t.trans t2) (p.trans p2) r
  | ex x ρ2 => exact fun F2 H2 O2 c d S2 t2 p2 r => h F2 H2 O2 c d S2 (t.trans t2) (p.trans p2) r
  | no => exact h
theorem WantE.after {xr : XRep} {W : WX} {o : Out R} {Q : VK} (h : WantE K xr W σ F H O ρ o Q) (t : Stp F H O F' H' O') (p : Pin ρ ρ') : WantE K xr W σ F' H' O' ρ' o Q := by
  cases o with
  | ok a ρ2 => exact fun F2 H2 O2 b S2 t2 p2 r => h F2 H2 O2 b S2 (t.trans t2) (p.trans p2) (r.from fun a e => t.none e)
  | ex x ρ2 => exact fun F2 H2 O2 c d S2 t2 p2 r => h F2 H2 O2 c d S2 (t.trans t2) (p.trans p2) r
  | no => exact h
end MI
namespace MI
open PySem PySem.Spec PyProof.Rows L2
variable {K : PySem.W.Frag} {F F' : Fz} {H H' : Hp} {O O' : Fz} {σ : L2.St} {ρ ρ' : Env}
/-! ### sorted ints -/
theorem insI_mem {x y : Int} : ∀ {l : List Int}, y ∈ insI x l ↔ y = x ∨ y ∈ l
  | [] => by simp [insI]
  | z :: l => by
    simp only [insI]
    split
    · simp
    · split
      · rename_i h; subst h; simp
      · simp [insI_mem (l := l)]
        constructor
        · rintro (h | h | h)
          · exact .inr (.inl h)
          · exact .inl h
          · exact .inr (.inr h)
        · rintro (h | h | h)
          · exact .inr (.inl h)
          · exact .inl h
          · exact .inr (.inr h)
theorem insI_lt {x : Int} : ∀ {l : List Int}, l.Pairwise (· < ·) → (insI x l).Pairwise (· < ·)
  | [], _ => by simp [insI]
  | z :: l, h => by
    have h' := List.pairwise_cons.mp h
    simp only [insI]
    split
    · rename_i q
      refine List.pairwise_cons.mpr ⟨fun y hy => ?_, h⟩
      rcases List.mem_cons.mp hy with rfl | hy
      · exact q
      · exact Int.lt_trans q (h'.1 y hy)
    · split
      · exact h
      · rename_i q1 q2
        refine List.pairwise_cons.mpr ⟨fun y hy => ?_, insI_lt h'.2⟩
        rcases insI_mem.mp hy with rfl | hy
        · omega
        · exact h'.1 y hy
theorem ssetI_mem {y : Int} : ∀ {l : List Int}, y ∈ ssetI l ↔ y ∈ l
  | [] => by simp [ssetI]
  | x :: l => by
    show y ∈ insI x (ssetI l) ↔ _
    rw [insI_mem, ssetI_mem (l := l), List.mem_cons]
theorem ssetI_lt : ∀ l : List Int, (ssetI l).Pairwise (· < ·)
  | [] => .nil
  | x :: l => insI_lt (ssetI_lt l)
theorem sorted_eq : ∀ {l m : List Int}, l.Pairwise (· < ·) → m.Pairwise (· < ·) → (∀ y, y ∈ l ↔ y ∈ m) → l = m
  | [], [], _, _, _ => rfl
  | [], y :: m, _, _, h => by have := (h y).mpr List.mem_cons_self; cases this
  | x :: l, [], _, _, h => by have := (h x).mp List.mem_cons_self; cases this
  | x :: l, y :: m, h1, h2, h => by
    have a := List.pairwise_cons.mp h1
    have b := List.pairwise_cons.mp h2
    have e : x = y := by
      rcases List.mem_cons.mp ((h x).mp List.mem_cons_self) with q | q
      · exact q
      · rcases List.mem_cons.mp ((h y).mpr List.mem_cons_self) with r | r
        · exact r.symm
        · have := b.1 x q
          have := a.1 y r
          omega
    subst e
    rw [sorted_eq a.2 b.2 fun z => ?_]
    constructor
    · intro hz
      rcases List.mem_cons.mp ((h z).mp (List.mem_cons_of_mem _ hz)) with q | q
      · have := a.1 z hz
        omega
      · exact q
    · intro hz
      rcases List.mem_cons.mp ((h z).mpr (List.mem_cons_of_mem _ hz)) with q | q
      · have := b.1 z hz
        omega
      · exact q
/-! ### dicts -/
/-- keys and values side by side -/
def DatsK (K : PySem.W.Frag) (F : Fz) (H : Hp) (kvs : List (Key × V)) (ds : List (D × D)) : Prop :=
  Dats K F H (kvs.map fun p => kV p.1) (ds.map (·.1)) ∧ Dats K F H (kvs.map (·.2)) (ds.map (·.2))
theorem DatsK.nil : DatsK K F H [] [] := ⟨.nil, .nil⟩
theorem DatsK.cons {p : Key × V} {d : D × D} {kvs : List (Key × V)} {ds : List (D × D)} (hk : Dat K F H (kV p.1) d.1) (hv : Dat K F H p.2 d.2) (h : DatsK K F H kvs ds) : DatsK K F H (p :: kvs) (d :: ds) := ⟨.cons hk h.1, .cons hv h.2⟩
theorem DatsK.inv {p : Key × V} {kvs : List (Key × V)} {ds : List (D × D)} (h : DatsK K F H (p :: kvs) ds) : ∃ d es, ds = d :: es ∧ Dat K F H (kV p.1) d.1 ∧ Dat K F H p.2 d.2 ∧ DatsK K F H kvs es := by
  obtain ⟨h1, h2⟩ := h
  cases ds with
  | nil => cases h1
  | cons d es =>
    cases h1 with
    | cons a b => cases h2 with
      | cons a' b' => exact ⟨d, es, rfl, a, a', b, b'⟩
theorem DatsK.inv0 {ds : List (D × D)} (h : DatsK K F H [] ds) : ds = [] := by
  cases ds with
  | nil => rfl
  | cons d es => exact nomatch h.1
theorem DatsK.length : ∀ {kvs : List (Key × V)} {ds : List (D × D)}, DatsK K F H kvs ds → kvs.length = ds.length
  | [], ds, h => by rw [h.inv0]; rfl
  | p :: r, ds, h => by
    obtain ⟨d, es, rfl, _, _, t⟩ := h.inv
    rw [List.length_cons, List.length_cons, t.length]
theorem isKey_of {d : D} (h : isKey d = true) : ∃ k : Key, (∀ {v : V}, Dat K F H v d → v = kV k) ∧ Dat K F H (kV k) d := by
  cases d <;> first | cases h | skip
  · rename_i i; exact ⟨.inl i, fun h => by cases h; rfl, .int i⟩
  · rename_i x; exact ⟨.inr x, fun h => by cases h; rfl, .str x⟩
theorem keyEq_ok {a b : D} {k j : Key} (ha : Dat K F H (kV k) a) (hb : Dat K F H (kV j) b) : keyEq a b = decide (k = j) := by
  cases k <;> cases j
  · cases ha; cases hb; simp [keyEq]
  · cases ha; cases hb; simp [keyEq]
  · cases ha; cases hb; simp [keyEq]
  · cases ha; cases hb; simp [keyEq]
theorem dfind_ok {k : Key} {kd : D} (hk : Dat K F H (kV k) kd) : ∀ {kvs : List (Key × V)} {ds : List (D × D)}, DatsK K F H kvs ds → (∀ d, dfind kd ds = some d → ∃ v, valV kvs k = some v ∧ Dat K F H v d) ∧ (dfind kd ds = none → valV kvs k = none)
  | [], ds, h => by
    rw [h.inv0]
    exact ⟨fun d e => (nomatch e), fun _ => rfl⟩
  | p :: r, ds, h => by
    obtain ⟨d, es, rfl, hd, hv, t⟩ := h.inv
    have q := keyEq_ok hd hk
    have ih := dfind_ok hk t
    by_cases e : p.1 = k
    · have : dfind kd (d :: es) = some d.2 := by simp [dfind, q, e]
      rw [this]
      exact ⟨fun x ex => (by cases ex; exact ⟨p.2, valV_pos e, hv⟩), fun z => (nomatch z)⟩
    · have : dfind kd (d :: es) = dfind kd es := by simp [dfind, q, e]
      rw [this, valV_neg e]
      exact ih
theorem dfind_some {k : Key} {kd : D} (hk : Dat K F H (kV k) kd) {kvs : List (Key × V)} {ds : List (D × D)} (h : DatsK K F H kvs ds) : (dfind kd ds).isSome = (valV kvs k).isSome := by
  obtain ⟨h1, h2⟩ := dfind_ok hk h
  cases e : dfind kd ds with
  | none => rw [h2 e]; rfl
  | some d => obtain ⟨v, ev, _⟩ := h1 d e; rw [ev]; rfl
theorem drepl_ok {k : Key} {kd : D} {v : V} {d : D} (hk : Dat K F H (kV k) kd) (hv : Dat K F H v d) : ∀ {kvs : List (Key × V)} {ds : List (D × D)}, DatsK K F H kvs ds → DatsK K F H (kvs.map fun kv => if kv.1 = k then (kv.1, v) else kv) (drepl kd d ds)
  | [], ds, h => by rw [h.inv0]; exact .nil
  | p :: r, ds, h => by
    obtain ⟨d0, es, rfl, hd, hv0, t⟩ := h.inv
    have q := keyEq_ok hd hk
    rw [List.map_cons]
    refine .cons ?_ ?_ (drepl_ok hk hv t)
    · by_cases e : p.1 = k <;> simp [q, e] <;> first | exact hd | (rw [← e]; exact hd)
    · by_cases e : p.1 = k
      · simp [q, e]; exact hv
      · simp [q, e]; exact hv0
theorem DatsK.append : ∀ {kvs more : List (Key × V)} {ds es : List (D × D)}, DatsK K F H kvs ds → DatsK K F H more es → DatsK K F H (kvs ++ more) (ds ++ es)
  | _, _, _, _, ⟨a, b⟩, ⟨c, d⟩ => ⟨by rw [List.map_append, List.map_append]; exact a.append c, by rw [List.map_append, List.map_append]; exact b.append d⟩
theorem dput_ok {k : Key} {kd : D} {v : V} {d : D} (hk : Dat K F H (kV k) kd) (hv : Dat K F H v d) {kvs : List (Key × V)} {ds : List (D × D)} (h : DatsK K F H kvs ds) : DatsK K F H (putK kvs k v) (dput ds kd d) := by
  unfold putK dput
  rw [valV_any, ← dfind_some hk h]
  by_cases e : (dfind kd ds).isSome = true
  · rw [if_pos e, if_pos e]; exact drepl_ok hk hv h
  · rw [if_neg e, if_neg e]; exact h.append (.cons hk hv .nil)
theorem DatsK.ext {kvs : List (Key × V)} {ds : List (D × D)} (x : Ext F H F' H') (h : DatsK K F H kvs ds) : DatsK K F' H' kvs ds := ⟨Dats.ext x h.1, Dats.ext x h.2⟩
theorem dputs_ok : ∀ {more : List (Key × V)} {es : List (D × D)} {kvs : List (Key × V)} {ds : List (D × D)}, DatsK K F H more es → DatsK K F H kvs ds → DatsK K F H (mergeK kvs more) (dputs ds es)
  | [], es, kvs, ds, h, g => by rw [h.inv0]; exact g
  | p :: r, es, kvs, ds, h, g => by
    obtain ⟨d, es', rfl, hd, hv, t⟩ := h.inv
    have := dputs_ok t (dput_ok hd hv g)
    exact this
theorem Dat1.dct {v : V} {ds : List (D × D)} (h : Dat1 K F H v (.dict ds)) : ∃ a kvs, v = .ref a ∧ H a = some (.dK kvs) ∧ DatsK K F H kvs ds := by
  cases h with
  | sh h => cases h with
    | dK f e a b => exact ⟨_, _, rfl, e, a, b⟩
  | od e a b => exact ⟨_, _, rfl, e, a, b⟩
/-- pairs, each key a number or a text -/
theorem keys_ok : ∀ {ps : List (V × V)} {ds : List (D × D)}, Dats K F H (ps.map (·.1)) (ds.map (·.1)) → Dats K F H (ps.map (·.2)) (ds.map (·.2)) → (ds.all fun p => isKey p.1) = true → ∃ kvs : List (Key × V), ps = kvs.map (fun kv => (kV kv.1, kv.2)) ∧ DatsK K F H kvs ds
  | [], ds, h, g, _ => by
    cases ds with
    | nil => exact ⟨[], rfl, .nil⟩
    | cons d es => exact nomatch h
  | p :: r, ds, h, g, a => by
    cases ds with
    | nil => exact nomatch h
    | cons d es =>
      rw [List.all_cons, Bool.and_eq_true] at a
      cases h with
      | cons h1 h2 => cases g with
        | cons g1 g2 =>
          obtain ⟨kvs, e, t⟩ := keys_ok h2 g2 a.2
          obtain ⟨k, hk, hk2⟩ := isKey_of (K := K) (F := F) (H := H) a.1
          have ek := hk h1
          refine ⟨(k, p.2) :: kvs, ?_, .cons hk2 g1 t⟩
          rw [List.map_cons, ← e, ← ek]
/-- a dict of ints: its keys -/
theorem intsK_ok : ∀ {kvs : List (Key × V)} {ds : List (D × D)} {ns : List Int}, DatsK K F H kvs ds → intsOfK ds = some ns → kvs.map (·.1) = ns.map Sum.inl
  | [], ds, ns, h, e => by rw [h.inv0] at e; cases e; rfl
  | p :: r, ds, ns, h, e => by
    obtain ⟨d, es, rfl, hd, hv, t⟩ := h.inv
    obtain ⟨d1, d2⟩ := d
    cases d1 <;> first | cases e | skip
    rename_i i
    simp only [intsOfK, Option.map_eq_some_iff] at e
    obtain ⟨ms, em, rfl⟩ := e
    have ih := intsK_ok t em
    rw [List.map_cons, List.map_cons, ih]
    obtain ⟨k, v⟩ := p
    cases k with
    | inl j => cases hd; rfl
    | inr x => cases hd
end MI
namespace MI
open PySem PySem.Spec PyProof.Rows L2
variable {K : PySem.W.Frag} {F F' : Fz} {H H' : Hp} {O O' : Fz} {σ : L2.St} {ρ ρ' : Env}
/-- a value just made -/
inductive NewR (K : PySem.W.Frag) (F : Fz) (H : Hp) : V → Hp → R → Prop
  | same {v : V} {d : D} : Dat K F H v d → NewR K F H v H (.val d)
  | tup {p : Addr} {vs : List V} {ds : List D} : H p = none → Dats K F H vs ds → NewR K F H (.ref p) (upd H p (.tup vs)) (.val (.tuple ds))
  | lst {p : Addr} {vs : List V} {ds : List D} : H p = none → Dats K F H vs ds → NewR K F H (.ref p) (upd H p (.lst vs)) (.new ds)
  | dK {p : Addr} {kvs : List (Key × V)} {ds : List (D × D)} : H p = none → Dats K F H (kvs.map fun p => kV p.1) (ds.map (·.1)) → Dats K F H (kvs.map (·.2)) (ds.map (·.2)) → NewR K F H (.ref p) (upd H p (.dK kvs)) (.newd ds)
/-- a new thing is laid, nothing else changes -/
theorem StI.laid {p : Addr} {o : HO} (S : StI K F H O σ ρ) (n : H p = none) : StI K F (upd H p o) O σ ρ := by
  have x : Ext F H F (upd H p o) := fun a f => ⟨f, upd_ne fun e => S.dom a f (by rw [e]; exact n)⟩
  refine ⟨S.len, fun i m e => ?_, fun a f => ?_, fun a q => ⟨?_, (S.odom a q).2⟩, S.sep⟩
  · obtain ⟨v, h1, h2⟩ := S.var i m e
    refine ⟨v, h1, ?_⟩
    cases m with
    | sh d => exact Dat.ext x h2
    | ol p' xs =>
      obtain ⟨a, vs, e, oa, ha, hd⟩ := h2
      exact ⟨a, vs, e, oa, (upd_ne (ne_of_none ha n)).trans ha, Dats.ext x hd⟩
    | od p' xs =>
      obtain ⟨a, vs, e, oa, ha, hd, hd2⟩ := h2
      exact ⟨a, vs, e, oa, (upd_ne (ne_of_none ha n)).trans ha, Dats.ext x hd, Dats.ext x hd2⟩
    | ob C fs => exact RepOb.ext x h2
    | sc ns =>
      obtain ⟨a, e, h⟩ := h2
      rcases h with ⟨f, r⟩ | r
      · exact ⟨a, e, .inl ⟨f, Rd.ext (x a f).2 r⟩⟩
      · exact ⟨a, e, .inr r⟩
  · rw [(x a f).2]; exact S.dom a f
  · rw [upd_ne fun e => (S.odom a q).1 (by rw [e]; exact n)]; exact (S.odom a q).1
theorem stp_laid {p : Addr} {o : HO} (n : H p = none) : Stp F H O F (upd H p o) O := by
  refine ⟨fun _ h => h, fun _ h => .inl h, fun _ h => .inl h, fun a h _ => upd_ne fun e => h (by rw [e]; exact n), fun a h => ?_⟩
  by_cases e : a = p
  · subst e; exact absurd n h
  · rw [upd_ne e]; exact h
theorem StI.nof {p : Addr} (S : StI K F H O σ ρ) (n : H p = none) : ¬ F p := fun f => S.dom p f n
theorem StI.noo {p : Addr} (S : StI K F H O σ ρ) (n : H p = none) : ¬ O p := fun f => (S.odom p f).1 n
theorem NewR.use {v : V} {r : R} (S : StI K F H O σ ρ) (h : NewR K F H v H' r) : ∃ F', StI K F' H' O σ ρ ∧ Stp F H O F' H' O ∧ RepR K H F' H' O σ v r := by
  cases h with
  | same d => exact ⟨F, S, .refl, d⟩
  | @tup p vs ds n d =>
    have S1 : StI K F (upd H p (.tup vs)) O σ ρ := S.laid n
    have t1 : Stp F H O F (upd H p (.tup vs)) O := stp_laid n
    refine ⟨fun b => F b ∨ b = p, S1.more _ fun b e => ?_, ⟨fun _ => .inl, fun b f => ?_, t1.ow, t1.hp, t1.all⟩, .tup (.inr rfl) upd_same (Dats.sub (fun _ => .inl) (Dats.ext (S.ext t1) d))⟩
    · subst e; exact ⟨by rw [upd_same]; simp, S.noo n⟩
    · rcases f with f | rfl
      · exact .inl f
      · exact .inr (.inl n)
  | @lst p vs ds n d =>
    exact ⟨F, S.laid n, stp_laid n, p, vs, rfl, S.nof n, S.noo n, n, upd_same, Dats.ext (S.ext (stp_laid (O := O) n)) d⟩
  | @dK p kvs ds n d d2 =>
    exact ⟨F, S.laid n, stp_laid n, p, kvs, rfl, S.nof n, S.noo n, n, upd_same, Dats.ext (S.ext (stp_laid (O := O) n)) d, Dats.ext (S.ext (stp_laid (O := O) n)) d2⟩
/-! ### data, taken apart -/
theorem Dat1.lst {v : V} {xs : List D} (h : Dat1 K F H v (.list xs)) : ∃ a vs, v = .ref a ∧ H a = some (.lst vs) ∧ Dats K F H vs xs := by
  cases h with
  | sh h => cases h with
    | lst f r t => exact ⟨_, _, rfl, r, t⟩
  | ol r t => exact ⟨_, _, rfl, r, t⟩
theorem Dat1.tup {v : V} {xs : List D} (h : Dat1 K F H v (.tuple xs)) : ∃ a vs, v = .ref a ∧ SqT K H a vs ∧ Dats K F H vs xs := by
  cases h with
  | sh h => cases h with
    | tup f r t => exact ⟨_, _, rfl, SqT.of r, t⟩
    | ktup r t => exact ⟨_, _, rfl, .inr r, t⟩
theorem Dat1.int {v : V} {i : Int} (h : Dat1 K F H v (.int i)) : v = .int i := by
  cases h with
  | sh h => cases h; rfl
theorem Dat1.bl {v : V} {i : Bool} (h : Dat1 K F H v (.bool i)) : v = .bl i := by
  cases h with
  | sh h => cases h; rfl
theorem Dat1.str {v : V} {i : Str} (h : Dat1 K F H v (.str i)) : v = .str i := by
  cases h with
  | sh h => cases h; rfl
theorem Dat1.non {v : V} (h : Dat1 K F H v .none) : v = .non := by
  cases h with
  | sh h => cases h; rfl
theorem Dat1.seq {v : V} {d : D} {xs : List D} (h : Dat1 K F H v d) (e : seqOf d = some xs) : ∃ a vs, v = .ref a ∧ (SqL K H a vs ∨ SqT K H a vs) ∧ Dats K F H vs xs := by
  cases d with
  | list ys => cases e; obtain ⟨a, vs, rfl, r, t⟩ := h.lst; exact ⟨a, vs, rfl, .inl (SqL.of r), t⟩
  | tuple ys => cases e; obtain ⟨a, vs, rfl, r, t⟩ := h.tup; exact ⟨a, vs, rfl, .inr r, t⟩
  | none => cases e
  | bool b => cases e
  | int i => cases e
  | str x => cases e
  | dict k => cases e
/-! ### as the library's data -/
section
variable {X : Cx} {pins : List (Addr × Obj)} {s : Shared}
mutual
theorem Dat.reads (I : Inv X pins σ H s) : ∀ (d : D) (v : V) (u : Value), Dat X.K F H v d → d.plain = true → RelV v u → ∃ as, Reads s.heap u d as
  | .none, _, _, h, _, r => by cases h; cases r; exact ⟨_, .none⟩
  | .bool b, _, _, h, _, r => by cases h; cases r; exact ⟨_, .bool b⟩
  | .int i, _, _, h, _, r => by cases h; obtain ⟨t, rfl⟩ := r; exact ⟨_, .int i t⟩
  | .str x, _, _, h, _, r => by cases h; obtain ⟨t, rfl⟩ := r; exact ⟨_, .str x t⟩
  | .list ds, _, _, h, p, r => by
    cases h with
    | lst f hs ha =>
      cases r
      obtain ⟨its, rv, ⟨o, n, ho, hc, _, hd⟩, _⟩ := I.list (SqL.of hs)
      obtain ⟨as, hr⟩ := Dats.reads I ds _ its ha (by simpa [PyData.plain] using p) rv
      exact ⟨_, .list ho hc hd hr⟩
  | .tuple ds, _, _, h, p, r => by
    have q : ∃ a vs, _ ∧ SqT X.K H a vs ∧ Dats X.K F H vs ds := Dat1.tup (.sh h)
    obtain ⟨a, vs, rfl, hs, ha⟩ := q
    cases r
    obtain ⟨its, rv, ⟨o, ho, hc, n, hd⟩, _⟩ := I.tuple hs
    obtain ⟨as, hr⟩ := Dats.reads I ds _ its ha (by simpa [PyData.plain] using p) rv
    exact ⟨_, .tuple ho hc hd hr⟩
  | .dict _, _, _, _, p, _ => by simp [PyData.plain] at p
theorem Dats.reads (I : Inv X pins σ H s) : ∀ (ds : List D) (vs : List V) (us : List Value), Dats X.K F H vs ds → PyData.plainAll ds = true → Vals vs us → ∃ as, ReadsAll s.heap us ds as
  | [], _, _, h, _, r => by cases h; cases r; exact ⟨_, .nil⟩
  | d :: ds, _, _, h, p, r => by
    cases h with
    | cons h1 h2 =>
      cases r with
      | cons r1 r2 =>
        have p' : d.plain = true ∧ PyData.plainAll ds = true := by simpa [PyData.plainAll] using p
        obtain ⟨as, q1⟩ := Dat.reads I d _ _ h1 p'.1 r1
        obtain ⟨bs, q2⟩ := Dats.reads I ds _ _ h2 p'.2 r2
        exact ⟨_, .cons q1 q2⟩
end
theorem Dat1.reads (I : Inv X pins σ H s) {d : D} {v : V} {u : Value} (h : Dat1 X.K F H v d) (p : d.plain = true) (r : RelV v u) : ∃ as, Reads s.heap u d as := by
  cases h with
  | sh h => exact Dat.reads I d v u h p r
  | ol hs ha =>
    cases r
    obtain ⟨its, rv, ⟨o, n, ho, hc, _, hd⟩, _⟩ := I.list (SqL.of hs)
    obtain ⟨as, hr⟩ := Dats.reads I _ _ its ha (by simpa [PyData.plain] using p) rv
    exact ⟨_, .list ho hc hd hr⟩
  | od hs ha hb => simp [PyData.plain] at p
end
/-! ### operators -/
def r2Of (K : PySem.W.Frag) (g : D → D → Option R) : R2 := fun x y H Q => ∃ F d e res, Dat1 K F H x d ∧ Dat1 K F H y e ∧ g d e = some res ∧ ∀ v H', NewR K F H v H' res → Q v H'
section
variable {X : Cx}
theorem gd_some {α : Type} {b : Bool} {a c : α} (h : gd b a = some c) : b = true ∧ a = c := by
  unfold gd at h
  cases b with
  | true => exact ⟨rfl, by simpa using h⟩
  | false => simp at h
theorem lim_eq : (Lim : Nat) = sizeLine := by rw [sizeLine_eq]
theorem add_ok : OpR X (binaryOp .Add) (r2Of X.K opAdd) := by
  intro pins s σ H x y v u Q I rx ry h
  obtain ⟨F, d, e, res, hx, hy, hg, hq⟩ := h
  cases d <;> cases e <;> try (simp [opAdd] at hg; done)
  · -- ints
    cases hx.int; cases hy.int
    simp only [opAdd, Option.some.injEq] at hg
    subst hg
    exact op_add pins s σ H _ _ v u Q I rx ry ⟨_, _, rfl, rfl, hq _ _ (.same (.int _))⟩
  · cases hx.str; cases hy.str
    obtain ⟨h1, rfl⟩ := gd_some hg
    exact op_add_str pins s σ H _ _ v u Q I rx ry ⟨_, _, rfl, rfl, by simpa [lim_eq] using h1, hq _ _ (.same (.str _))⟩
  · obtain ⟨a, vs, rfl, ha, da⟩ := hx.lst
    obtain ⟨b, ws, rfl, hb, db⟩ := hy.lst
    obtain ⟨h1, rfl⟩ := gd_some hg
    exact op_cat pins s σ H _ _ v u Q I rx ry ⟨a, b, vs, ws, rfl, rfl, ha, hb, by rw [da.length, db.length]; simpa [lim_eq] using h1, fun p hp => hq _ _ (.lst hp (da.append db))⟩
  · obtain ⟨a, vs, rfl, ha, da⟩ := hx.tup
    obtain ⟨b, ws, rfl, hb, db⟩ := hy.tup
    obtain ⟨h1, rfl⟩ := gd_some hg
    refine op_catA pins s σ H _ _ v u Q I rx ry ⟨a, b, vs, ws, rfl, rfl, ha, hb, by rw [da.length, db.length]; simpa [lim_eq] using h1, fun e => ?_, fun _ e => ?_, fun _ _ p hp => hq _ _ (.tup hp (da.append db))⟩
    · subst e
      cases da
      refine hq _ _ (.same ?_)
      cases hy with
      | sh hy => simpa using hy
    · subst e
      cases db
      refine hq _ _ (.same ?_)
      cases hx with
      | sh hx => simpa using hx
theorem int_ok {op : Operator} {f : Int → Int → Option Int} {C : Int → Int → Prop} {g : Int → Int → Int} (ho : OpR X (binaryOp op) (rI C fun i j => .int (g i j))) (hf : ∀ i j k, f i j = some k → C i j ∧ g i j = k) : OpR X (binaryOp op) (r2Of X.K (opInt f)) := by
  intro pins s σ H x y v u Q I rx ry h
  obtain ⟨F, d, e, res, hx, hy, hg, hq⟩ := h
  cases d <;> cases e <;> try (simp [opInt] at hg; done)
  cases hx.int; cases hy.int
  rename_i i j
  simp only [opInt, Option.map_eq_some_iff] at hg
  obtain ⟨k, hk, rfl⟩ := hg
  obtain ⟨hC, rfl⟩ := hf i j k hk
  exact ho pins s σ H _ _ v u Q I rx ry ⟨i, j, rfl, rfl, hC, hq _ _ (.same (.int _))⟩
theorem sub_ok : OpR X (binaryOp .Sub) (r2Of X.K (opInt iSub)) := int_ok (C := fun _ _ => True) (g := fun i j => i - j) (fun pins s σ H x y v u Q I rx ry ⟨i, j, a, b, _, q⟩ => op_sub pins s σ H x y v u Q I rx ry ⟨i, j, a, b, q⟩)
  fun i j k h => ⟨trivial, by simpa [iSub] using h⟩
theorem fdiv_ok : OpR X (binaryOp .FloorDiv) (r2Of X.K (opInt iFdiv)) := int_ok op_fdivW fun i j k h => by
  obtain ⟨h1, h2⟩ := gd_some h
  simp only [Bool.and_eq_true, decide_eq_true_eq] at h1
  exact ⟨wide_div (b := 200) h1.1 (Nat.lt_of_lt_of_le (show j.natAbs < 1000000000000000000000000000000000000000000000000000000000000 by omega) (by decide)) (by decide) (by decide), h2⟩
theorem mod_ok : OpR X (binaryOp .Mod) (r2Of X.K (opInt iMod)) := int_ok op_mod fun i j k h => by
  obtain ⟨h1, h2⟩ := gd_some h
  simp only [decide_eq_true_eq] at h1
  exact ⟨h1, h2⟩
theorem pow_ok : OpR X (binaryOp .Pow) (r2Of X.K (opInt iPow)) := int_ok op_pow fun i j k h => by
  obtain ⟨h1, h2⟩ := gd_some h
  simp only [Bool.and_eq_true, decide_eq_true_eq] at h1
  exact ⟨⟨h1.1.1, h1.1.2, h1.2⟩, h2⟩
/-- a tuple times 1, the empty tuple times anything: itself -/
theorem tuple_mulS (l : Addr) (items : Array Value) (n : Nat) (dd : Option Addr) (sl : Array (Option Value)) (x : Int) (u : Tok) (c0 : (decide (x < -(2 ^ 63)) || decide (x ≥ 2 ^ 63)) = false) (c1 : (items.isEmpty || x == 1) = true) :
    Meets (Builtin.«tuple.__mul__» ⟨[.ref l, .int x u], []⟩) (fun _ R s => s.heap.get? l = some { cls := .type "tuple", dict := dd, data := .seq items n, slots := sl } ∧ R (.ok (.ret (Value.ref l))) s) :=
  .of_wp fun prog w A R s h => by
    obtain ⟨hp, g, d, tk, os⟩ := s
    obtain ⟨hl, h⟩ := h
    have f1 := AutoSeq1.idx_int
    wp_walk using wpAny_loadPart' hl
    repeat (first
      | (refine wpAny_ite_false (decide_eq_false (by rw [c0]; exact Bool.false_ne_true)) ?_; wp_walk using wpAny_loadPart' hl)
      | (refine wpAny_ite_true (decide_eq_true (by rw [c1])) ?_; wp_walk using wpAny_loadPart' hl))
    exact ⟨_, rfl, h⟩
theorem op_repS {pins : List (Addr × Obj)} {s : Shared} {σ : L2.St} {H : Hp} {l : Addr} {k : Int} {xs : List V} {u : Value} {Q : VK} (I : Inv X pins σ H s) (ru : RelV (.int k) u) (hT : SqT X.K H l xs) (hk : k.natAbs < 2 ^ 62) (hc : xs = [] ∨ k = 1) (q : Q (.ref l) H) :
    wpAny (model X.prog X.w) X.A (binaryOp .Mult (.ref l) u) (EP X pins σ Q) X.xe s := by
  obtain ⟨t, rfl⟩ := ru
  obtain ⟨its, r, ⟨⟨cls, dd, data, sl⟩, ho, hc', n, hd⟩, hs⟩ := I.tuple hT
  simp only at hc' hd
  subst hc' hd
  have c0 : (decide (k < -(2 ^ 63)) || decide (k ≥ 2 ^ 63)) = false := by
    rw [decide_eq_false (by omega), decide_eq_false (by omega)] <;> rfl
  have c1 : (its.toArray.isEmpty || k == 1) = true := by
    rcases hc with rfl | rfl
    · cases r; rfl
    · simp
  exact wpAny_binaryOp_repeat_ref (T := "tuple") (U := "int") (by decide) ⟨_, ho, rfl⟩ (fun s' => typeIs_int s' k t) noFill_tuple_mul F.fills_int_mul F.slot_int_rmul repeat_tuple F.slot_int_index.lookup
    (call_meets F.slot_int_rmul (typeIs_int s k t) F.entry_int_rmul (F.args_int_rmul_2 _ _) (int_rmul_tuple k t l its.toArray n dd sl)
      ⟨ho, rfl, ⟨_, ho, rfl⟩, call_meets F.slot_tuple_mul ⟨_, ho, rfl⟩ F.entry_tuple_mul (F.args_tuple_mul_2 _ _) (tuple_mulS l its.toArray n dd sl k t c0 c1) ⟨ho, .ref l, H, I, rfl, q⟩⟩)
theorem tuple_mul0 (l : Addr) (items : Array Value) (n : Nat) (dd : Option Addr) (sl : Array (Option Value)) (u : Tok) (c1 : (items.isEmpty || (0 : Int) == 1) = false) :
    Meets (Builtin.«tuple.__mul__» ⟨[.ref l, .int 0 u], []⟩) (fun _ R s => s.heap.get? l = some { cls := .type "tuple", dict := dd, data := .seq items n, slots := sl } ∧ R (.ok (.ret (Value.ref s.heap.objs.size))) { s with heap := s.heap.push { cls := Value.type "tuple", data := Data.seq #[] } }) :=
  .of_wp fun prog w A R s h => by
    obtain ⟨hp, g, d, tk, os⟩ := s
    obtain ⟨hl, h⟩ := h
    have f1 := AutoSeq1.idx_int
    have c0 : (decide ((0 : Int) < -(2 ^ 63)) || decide ((0 : Int) ≥ 2 ^ 63)) = false := by decide
    have c2 : (decide ((0 : Int) ≤ 0) || items.isEmpty) = true := by simp
    wp_walk using wpAny_loadPart' hl
    repeat (first
      | (refine wpAny_ite_false (decide_eq_false (by rw [c0]; exact Bool.false_ne_true)) ?_; wp_walk using wpAny_loadPart' hl)
      | (refine wpAny_ite_false (decide_eq_false (by rw [c1]; exact Bool.false_ne_true)) ?_; wp_walk using wpAny_loadPart' hl)
      | (refine wpAny_ite_true (decide_eq_true (by rw [c2])) ?_; wp_walk using wpAny_loadPart' hl))
    exact ⟨_, rfl, h⟩
theorem op_rep0 {pins : List (Addr × Obj)} {s : Shared} {σ : L2.St} {H : Hp} {l : Addr} {xs : List V} {u : Value} {Q : VK} (I : Inv X pins σ H s) (ru : RelV (.int 0) u) (hT : SqT X.K H l xs) (hne : xs ≠ []) (q : ∀ p, H p = none → Q (.ref p) (upd H p (.tup []))) :
    wpAny (model X.prog X.w) X.A (binaryOp .Mult (.ref l) u) (EP X pins σ Q) X.xe s := by
  obtain ⟨t, rfl⟩ := ru
  obtain ⟨its, r, ⟨⟨cls, dd, data, sl⟩, ho, hc', n, hd⟩, hs⟩ := I.tuple hT
  simp only at hc' hd
  subst hc' hd
  have c1 : (its.toArray.isEmpty || (0 : Int) == 1) = false := by
    cases r with
    | nil => exact absurd rfl hne
    | cons a b => rfl
  refine wpAny_binaryOp_repeat_ref (T := "tuple") (U := "int") (by decide) ⟨_, ho, rfl⟩ (fun s' => typeIs_int s' 0 t) noFill_tuple_mul F.fills_int_mul F.slot_int_rmul repeat_tuple F.slot_int_index.lookup
    (call_meets F.slot_int_rmul (typeIs_int s 0 t) F.entry_int_rmul (F.args_int_rmul_2 _ _) (int_rmul_tuple 0 t l its.toArray n dd sl)
      ⟨ho, rfl, ⟨_, ho, rfl⟩, call_meets F.slot_tuple_mul ⟨_, ho, rfl⟩ F.entry_tuple_mul (F.args_tuple_mul_2 _ _) (tuple_mul0 l its.toArray n dd sl t c1) ⟨ho, ?_⟩⟩)
  refine ⟨.ref s.heap.objs.size, _, I.laid (t' := s.toks) (o := .tup []) (fun b ob q => Heap.get?_push_of_some _ q) (Nat.le_refl _) ?_, rfl, q _ (I.hok.fresh (Nat.le_refl _))⟩
  exact ⟨Nat.zero_le _, [], .nil, IsTup.new _ _⟩
theorem mul_ok : OpR X (binaryOp .Mult) (r2Of X.K opMul) := by
  intro pins s σ H x y v u Q I rx ry h
  obtain ⟨F, d, e, res, hx, hy, hg, hq⟩ := h
  cases d <;> cases e <;> try (simp [opMul] at hg; done)
  · cases hx.int; cases hy.int
    obtain ⟨h1, rfl⟩ := gd_some hg
    refine op_mul pins s σ H _ _ v u Q I rx ry ⟨_, _, rfl, rfl, ?_, hq _ _ (.same (.int _))⟩
    simp only [Bool.or_eq_true, decide_eq_true_eq] at h1
    unfold CMul
    omega
  · obtain ⟨a, vs, rfl, ha, da⟩ := hx.lst
    cases hy.int
    obtain ⟨h1, rfl⟩ := gd_some hg
    simp only [Bool.and_eq_true, decide_eq_true_eq] at h1
    exact op_rep pins s σ H _ _ v u Q I rx ry ⟨a, _, vs, rfl, rfl, ha, by omega, by omega, by rw [da.length]; simpa [lim_eq] using h1.2, fun p hp => hq _ _ (.lst hp (da.rep _))⟩
  · obtain ⟨a, vs, rfl, ha, da⟩ := hx.tup
    cases hy.int
    rename_i ds k
    simp only [opMul] at hg
    split at hg
    · rename_i hc
      obtain ⟨h1, rfl⟩ := gd_some hg
      cases rx
      refine op_repS I ry ha (by simpa using h1) ?_ (hq _ _ (.same ?_))
      · rcases hc with hc | hc
        · left
          have : ds = [] := by simpa using hc
          subst this
          cases da; rfl
        · exact .inr hc
      · cases hx with
        | sh hx => exact hx
    · rename_i hc
      split at hg
      · rename_i h0
        subst h0
        cases hg
        cases rx
        refine op_rep0 I ry ha (fun e => ?_) fun p hp => hq _ _ (.tup hp .nil)
        subst e
        cases da
        exact hc (.inl rfl)
      obtain ⟨h1, rfl⟩ := gd_some hg
      simp only [Bool.and_eq_true, decide_eq_true_eq] at h1
      refine op_repT pins s σ H _ _ v u Q I rx ry ⟨a, _, vs, rfl, rfl, ha, ?_, h1.1.1, h1.1.2, by rw [da.length]; exact h1.2, fun p hp => hq _ _ (.tup hp (da.rep _))⟩
      intro e
      subst e
      cases da
      exact hc (.inl rfl)
def opOk : Op → Operator → Bool
  | .add, .Add => true
  | .sub, .Sub => true
  | .mul, .Mult => true
  | .fdiv, .FloorDiv => true
  | .mod, .Mod => true
  | .pow, .Pow => true
  | _, _ => false
theorem bin_ok {o : Op} {p : Operator} (h : opOk o p = true) : OpR X (binaryOp p) (r2Of X.K (opBin o)) := by
  cases o <;> cases p <;> first | (cases h; done) | exact add_ok | exact sub_ok | exact mul_ok | exact fdiv_ok | exact mod_ok | exact pow_ok
/-! ### comparisons -/
def rCOf (K : PySem.W.Frag) (g : D → D → Option Bool) : R2 := fun x y H Q => ∃ F d e b, Dat1 K F H x d ∧ Dat1 K F H y e ∧ g d e = some b ∧ Q (.bl b) H
theorem okEq_iff {d : D} : okEq d = true ↔ d.plain = true ∧ d.depth ≤ 64 := by
  unfold okEq
  simp
theorem differ_lists {a b : D} (h : lensDiffer a b = true) : ∃ xs ys, a = .list xs ∧ b = .list ys ∧ xs.length ≠ ys.length := by
  unfold lensDiffer at h
  split at h
  · exact ⟨_, _, rfl, rfl, by simpa using h⟩
  · cases h
theorem Dat1.isl {pins : List (Addr × Obj)} {s : Shared} {v : V} {xs : List D} {u : Value} (I : Inv X pins σ H s) (h : Dat1 X.K F H v (.list xs)) (r : RelV v u) : ∃ a its, u = .ref a ∧ s.heap.IsList a its ∧ its.size = xs.length := by
  obtain ⟨a, vs, rfl, ha, da⟩ := h.lst
  cases r
  obtain ⟨its, rv, p, _⟩ := I.list (SqL.of ha)
  exact ⟨a, _, rfl, p.isList, by rw [List.size_toArray, ← rv.length, da.length]⟩
theorem eq_ok {k : Nat} (hr : Room k X.A) : OpR X (compareOp .Eq) (rCOf X.K opEq) := by
  intro pins s σ H x y v u Q I rx ry h
  obtain ⟨F, d, e, b, hx, hy, hg, hq⟩ := h
  unfold opEq at hg
  have hu := hr.un
  split at hg
  · rename_i hd
    obtain ⟨xs, ys, rfl, rfl, hl⟩ := differ_lists hd
    cases hg
    obtain ⟨a, its, rfl, p1, z1⟩ := hx.isl I rx
    obtain ⟨c, its2, rfl, p2, z2⟩ := hy.isl I ry
    exact SeqAt.RcAt.lists_lengths p1 p2 (by simp [z1, z2, hl]) (by omega) X.prog X.w X.xe _ ⟨.bl _, H, I, rfl, hq⟩
  · obtain ⟨h1, rfl⟩ := gd_some hg
    simp only [Bool.and_eq_true, okEq_iff] at h1
    obtain ⟨as, r1⟩ := hx.reads I h1.1.1 rx
    obtain ⟨bs, r2⟩ := hy.reads I h1.2.1 ry
    exact SeqAt.eq_plain r1 r2 h1.1.1 h1.2.1 (by omega) ⟨.bl _, H, I, rfl, hq⟩
theorem ne_ok {k : Nat} (hr : Room k X.A) : OpR X (compareOp .NotEq) (rCOf X.K fun a b => (opEq a b).map not) := by
  intro pins s σ H x y v u Q I rx ry h
  obtain ⟨F, d, e, b, hx, hy, hg, hq⟩ := h
  simp only [Option.map_eq_some_iff] at hg
  obtain ⟨c, hg, rfl⟩ := hg
  unfold opEq at hg
  have hu := hr.un
  split at hg
  · rename_i hd
    obtain ⟨xs, ys, rfl, rfl, hl⟩ := differ_lists hd
    cases hg
    obtain ⟨a, its, rfl, p1, z1⟩ := hx.isl I rx
    obtain ⟨c, its2, rfl, p2, z2⟩ := hy.isl I ry
    exact SeqAt.RcNeAt.lists_lengths p1 p2 (by simp [z1, z2, hl]) (by omega) X.prog X.w X.xe _ ⟨.bl _, H, I, rfl, hq⟩
  · obtain ⟨h1, rfl⟩ := gd_some hg
    simp only [Bool.and_eq_true, okEq_iff] at h1
    obtain ⟨as, r1⟩ := hx.reads I h1.1.1 rx
    obtain ⟨bs, r2⟩ := hy.reads I h1.2.1 ry
    exact SeqAt.ne_plain r1 r2 h1.1.1 h1.2.1 (by omega) ⟨.bl _, H, I, rfl, hq⟩
theorem isNone_iff {d : D} : isNone d = false ↔ d ≠ .none := by cases d <;> simp [isNone]
theorem lt_ok {k : Nat} (hr : Room k X.A) : OpR X (compareOp .Lt) (rCOf X.K opLt) := by
  intro pins s σ H x y v u Q I rx ry h
  obtain ⟨F, d, e, b, hx, hy, hg, hq⟩ := h
  have hu := hr.un
  unfold opLt at hg
  split at hg
  · cases hx.int; cases hy.int; cases hg
    exact op_lt pins s σ H _ _ v u Q I rx ry ⟨_, _, rfl, rfl, hq⟩
  · obtain ⟨h1, rfl⟩ := gd_some hg
    simp only [okLt, Bool.and_eq_true, decide_eq_true_eq, Bool.not_eq_true', isNone_iff] at h1
    obtain ⟨⟨⟨⟨p1, p2⟩, h1⟩, h2⟩, h3⟩ := h1
    obtain ⟨as, r1⟩ := hx.reads I p1 rx
    obtain ⟨bs, r2⟩ := hy.reads I p2 ry
    exact W.lt_data r1 r2 h1 h3 (by omega) ⟨.bl _, H, I, rfl, hq⟩
theorem le_ok {k : Nat} (hr : Room k X.A) : OpR X (compareOp .LtE) (rCOf X.K opLe) := by
  intro pins s σ H x y v u Q I rx ry h
  obtain ⟨F, d, e, b, hx, hy, hg, hq⟩ := h
  have hu := hr.un
  unfold opLe at hg
  split at hg
  · cases hx.int; cases hy.int; cases hg
    exact op_le pins s σ H _ _ v u Q I rx ry ⟨_, _, rfl, rfl, hq⟩
  · obtain ⟨h1, rfl⟩ := gd_some hg
    simp only [okLt, Bool.and_eq_true, decide_eq_true_eq, Bool.not_eq_true', isNone_iff] at h1
    obtain ⟨⟨⟨⟨p1, p2⟩, h1⟩, h2⟩, h3⟩ := h1
    obtain ⟨as, r1⟩ := hx.reads I p1 rx
    obtain ⟨bs, r2⟩ := hy.reads I p2 ry
    exact W.le_data r1 r2 h1 h3 (by omega) ⟨.bl _, H, I, rfl, hq⟩
theorem gt_ok : OpR X (compareOp .Gt) (rCOf X.K opGt) := by
  intro pins s σ H x y v u Q I rx ry h
  obtain ⟨F, d, e, b, hx, hy, hg, hq⟩ := h
  unfold opGt at hg
  split at hg
  · cases hx.int; cases hy.int; cases hg
    exact op_gt pins s σ H _ _ v u Q I rx ry ⟨_, _, rfl, rfl, hq⟩
  · cases hg
theorem ge_ok : OpR X (compareOp .GtE) (rCOf X.K opGe) := by
  intro pins s σ H x y v u Q I rx ry h
  obtain ⟨F, d, e, b, hx, hy, hg, hq⟩ := h
  unfold opGe at hg
  split at hg
  · cases hx.int; cases hy.int; cases hg
    exact op_ge pins s σ H _ _ v u Q I rx ry ⟨_, _, rfl, rfl, hq⟩
  · cases hg
theorem in_ok {k : Nat} (hr : Room k X.A) : OpR X (compareOp .In) (rCOf X.K opIn) := by
  intro pins s σ H x y v u Q I rx ry h
  obtain ⟨F, d, e, b, hx, hy, hg, hq⟩ := h
  by_cases hdi : ∃ kvs, e = .dict kvs
  · obtain ⟨ds, rfl⟩ := hdi
    obtain ⟨h1, rfl⟩ := gd_some hg
    obtain ⟨a, kvs, rfl, ha, dk⟩ := hy.dct
    obtain ⟨kk, hk, hk2⟩ := isKey_of (K := X.K) (F := F) (H := H) h1
    obtain ⟨z, hd, vs, rel, dd⟩ := dk_of I.hok ha
    have ek : x = kV kk := by cases hx with
      | sh h => exact hk h
      | ol _ _ => cases h1
      | od _ _ _ => cases h1
    subst ek
    obtain rfl : u = Value.ref a := ry
    refine wpAny_in_of (kV_is rx) hd dd.mapOf ?_
    refine ⟨.bl _, H, I.tok _, ?_, hq⟩
    rw [dfind_some hk2 dk, (rel.val kk).isSome_eq]
    rfl
  replace hg : ((seqOf e).bind fun xs => gd (okEq d && PyData.plainAll xs) (memD d xs)) = some b := by
    cases e with
    | dict kvs => exact absurd ⟨kvs, rfl⟩ hdi
    | _ => exact hg
  simp only [Option.bind_eq_some_iff] at hg
  obtain ⟨xs, hs, hg⟩ := hg
  obtain ⟨h1, rfl⟩ := gd_some hg
  simp only [Bool.and_eq_true, okEq_iff] at h1
  have hu := hr.un
  obtain ⟨as, r1⟩ := hx.reads I h1.1.1 rx
  cases e with
  | list ys =>
    cases hs
    obtain ⟨bs, r2⟩ := hy.reads I (by simpa [PyData.plain] using h1.2) ry
    exact SeqAt.in_list_data r2 r1 h1.2 h1.1.1 (by omega) ⟨.bl _, H, I, rfl, hq⟩
  | tuple ys =>
    cases hs
    obtain ⟨bs, r2⟩ := hy.reads I (by simpa [PyData.plain] using h1.2) ry
    exact SeqAt.in_tuple_data r2 r1 h1.2 h1.1.1 (by omega) ⟨.bl _, H, I, rfl, hq⟩
  | none => cases hs
  | bool b => cases hs
  | int i => cases hs
  | str x => cases hs
  | dict k => cases hs
theorem notin_ok {k : Nat} (hr : Room k X.A) : OpR X (compareOp .NotIn) (rCOf X.K fun a b => (opIn a b).map not) := by
  intro pins s σ H x y v u Q I rx ry h
  obtain ⟨F, d, e, b, hx, hy, hg, hq⟩ := h
  by_cases hdi : ∃ kvs, e = .dict kvs
  · obtain ⟨ds, rfl⟩ := hdi
    obtain ⟨c, hg', rfl⟩ := Option.map_eq_some_iff.mp hg
    replace hg := hg'
    obtain ⟨h1, rfl⟩ := gd_some hg
    obtain ⟨a, kvs, rfl, ha, dk⟩ := hy.dct
    obtain ⟨kk, hk, hk2⟩ := isKey_of (K := X.K) (F := F) (H := H) h1
    obtain ⟨z, hd, vs, rel, dd⟩ := dk_of I.hok ha
    have ek : x = kV kk := by cases hx with
      | sh h => exact hk h
      | ol _ _ => cases h1
      | od _ _ _ => cases h1
    subst ek
    obtain rfl : u = Value.ref a := ry
    refine wpAny_notIn_of (kV_is rx) hd dd.mapOf ?_
    refine ⟨.bl _, H, I.tok _, ?_, hq⟩
    rw [dfind_some hk2 dk, (rel.val kk).isSome_eq]
    rfl
  replace hg : (((seqOf e).bind fun xs => gd (okEq d && PyData.plainAll xs) (memD d xs)).map not) = some b := by
    cases e with
    | dict kvs => exact absurd ⟨kvs, rfl⟩ hdi
    | _ => exact hg
  simp only [Option.map_eq_some_iff, Option.bind_eq_some_iff] at hg
  obtain ⟨c, ⟨xs, hs, hg⟩, rfl⟩ := hg
  obtain ⟨h1, rfl⟩ := gd_some hg
  simp only [Bool.and_eq_true, okEq_iff] at h1
  have hu := hr.un
  obtain ⟨as, r1⟩ := hx.reads I h1.1.1 rx
  cases e with
  | list ys =>
    cases hs
    obtain ⟨bs, r2⟩ := hy.reads I (by simpa [PyData.plain] using h1.2) ry
    exact SeqAt.notIn_list_data r2 r1 h1.2 h1.1.1 (by omega) ⟨.bl _, H, I, rfl, hq⟩
  | tuple ys =>
    cases hs
    obtain ⟨bs, r2⟩ := hy.reads I (by simpa [PyData.plain] using h1.2) ry
    exact SeqAt.notIn_tuple_data r2 r1 h1.2 h1.1.1 (by omega) ⟨.bl _, H, I, rfl, hq⟩
  | none => cases hs
  | bool b => cases hs
  | int i => cases hs
  | str x => cases hs
  | dict k => cases hs
theorem isN_of {v : V} {d : D} (h : Dat1 K F H v d) : decide (v = .non) = isNone d := by
  cases h with
  | sh h => cases h <;> simp [isNone]
  | ol _ _ => simp [isNone]
  | od _ _ _ => simp [isNone]
theorem isN_ok : OpR X (compareOp .Is) (rCOf X.K isD) := by
  intro pins s σ H x y v u Q I rx ry h
  obtain ⟨F, d, e, b, hx, hy, hg, hq⟩ := h
  cases e with
  | none =>
    cases (show some (isNone d) = some b from hg)
    have ey : y = .non := by have := isN_of hy; simpa [isNone] using this
    exact op_isN pins s σ H _ _ v u Q I rx ry ⟨ey, by rw [isN_of hx]; exact hq⟩
  | bool c =>
    cases d with
    | bool a =>
      cases (show some (a == c) = some b from hg)
      exact op_isBl pins s σ H _ _ v u Q I rx ry ⟨a, c, hx.bl, hy.bl, by rw [show decide (a = c) = (a == c) from rfl]; exact hq⟩
    | _ => cases hg
  | _ => cases hg
theorem notN_ok : OpR X (compareOp .IsNot) (rCOf X.K fun a b => (isD a b).map not) := by
  intro pins s σ H x y v u Q I rx ry h
  obtain ⟨F, d, e, b, hx, hy, hg, hq⟩ := h
  cases e with
  | none =>
    cases (show some (!isNone d) = some b from hg)
    have ey : y = .non := by have := isN_of hy; simpa [isNone] using this
    exact op_notN pins s σ H _ _ v u Q I rx ry ⟨ey, by rw [isN_of hx]; exact hq⟩
  | bool c =>
    cases d with
    | bool a =>
      cases (show some (!(a == c)) = some b from hg)
      exact op_notBl pins s σ H _ _ v u Q I rx ry ⟨a, c, hx.bl, hy.bl, by rw [show decide (a = c) = (a == c) from rfl]; exact hq⟩
    | _ => cases hg
  | _ => cases hg
def cpOk : Cp → CmpOp → Bool
  | .eq, .Eq => true
  | .ne, .NotEq => true
  | .lt, .Lt => true
  | .le, .LtE => true
  | .gt, .Gt => true
  | .ge, .GtE => true
  | .isin, .In => true
  | .notin, .NotIn => true
  | .isN, .Is => true
  | .notN, .IsNot => true
  | _, _ => false
theorem cmp_ok {k : Nat} (hr : Room k X.A) {o : Cp} {p : CmpOp} (h : cpOk o p = true) : OpR X (compareOp p) (rCOf X.K (opCmp o)) := by
  cases o <;> cases p <;> first | (cases h; done) | exact eq_ok hr | exact ne_ok hr | exact lt_ok hr | exact le_ok hr | exact gt_ok | exact ge_ok | exact in_ok hr | exact notin_ok hr | exact isN_ok | exact notN_ok
end
end MI
namespace MI
open PySem PySem.Spec PyProof.Rows L2
variable {K : PySem.W.Frag} {F F' : Fz} {H H' : Hp} {O O' : Fz} {σ : L2.St} {ρ ρ' : Env}
/-! ### an item, a cut -/
theorem Dats.atI {vs : List V} {ds : List D} {i : Int} {d : D} (h : Dats K F H vs ds) (e : atD ds i = some d) : ∃ v, L2.atI vs i = some v ∧ Dat K F H v d := by
  unfold atD at e
  rw [Option.bind_eq_some_iff] at e
  obtain ⟨j, hj, e⟩ := e
  obtain ⟨v, hv, hd⟩ := h.get e
  refine ⟨v, ?_, hd⟩
  unfold L2.atI
  rw [h.length]
  have q : L2.ixN ds.length i = some j := hj
  rw [q]
  exact hv
section
variable {X : Cx}
theorem ix_dict : IxR X (fun x y H Q => ∃ a kvs k v, x = .ref a ∧ y = kV k ∧ H a = some (.dK kvs) ∧ valV kvs k = some v ∧ Q v H) := by
  intro value slice pins s σ H x y v u Q I rx ry h hs
  obtain ⟨a, kvs, k, r, rfl, rfl, ha, hv, q⟩ := h
  obtain rfl : v = Value.ref a := rx
  obtain ⟨z, hd, vs, rel, dd⟩ := dk_of I.hok ha
  obtain ⟨w', hw, rw'⟩ := RelO.some_of (v := r) (o := valueAt vs k) (by rw [← hv]; exact rel.val k)
  exact tail_any dd.typeIs slot_dict_getitem.lookup (wpAny_getItem_of (kV_is ry) dd.mapOf hw ⟨r, H, I.tok _, rw', q⟩) hs
theorem idx_ok : IxR X (r2Of X.K opIdx) := by
  intro value slice pins s σ H x y v u Q I rx ry h hsub
  obtain ⟨F, d, e, res, hx, hy, hg, hq⟩ := h
  cases d <;> cases e <;> try (simp [opIdx] at hg; done)
  · obtain ⟨a, vs, rfl, ha, da⟩ := hx.lst
    cases hy.int
    simp only [opIdx, Option.map_eq_some_iff] at hg
    obtain ⟨c, hc, rfl⟩ := hg
    obtain ⟨w, hw, hd⟩ := da.atI hc
    exact ix_list value slice pins s σ H _ _ v u Q I rx ry ⟨a, vs, _, w, rfl, rfl, SqL.of ha, hw, hq _ _ (.same hd)⟩ hsub
  · obtain ⟨a, vs, rfl, ha, da⟩ := hx.tup
    cases hy.int
    simp only [opIdx, Option.map_eq_some_iff] at hg
    obtain ⟨c, hc, rfl⟩ := hg
    obtain ⟨w, hw, hd⟩ := da.atI hc
    exact ix_tup value slice pins s σ H _ _ v u Q I rx ry ⟨a, vs, _, w, rfl, rfl, ha, hw, hq _ _ (.same hd)⟩ hsub
  · obtain ⟨a, kvs, rfl, ha, dk⟩ := hx.dct
    cases hy.int
    simp only [opIdx, Option.map_eq_some_iff] at hg
    obtain ⟨c, hc, rfl⟩ := hg
    obtain ⟨w, hw, hd⟩ := (dfind_ok (k := .inl _) (.int _) dk).1 c hc
    exact ix_dict value slice pins s σ H _ _ v u Q I rx ry ⟨a, kvs, _, w, rfl, rfl, ha, hw, hq _ _ (.same hd)⟩ hsub
  · obtain ⟨a, kvs, rfl, ha, dk⟩ := hx.dct
    cases hy.str
    simp only [opIdx, Option.map_eq_some_iff] at hg
    obtain ⟨c, hc, rfl⟩ := hg
    obtain ⟨w, hw, hd⟩ := (dfind_ok (k := .inr _) (.str _) dk).1 c hc
    exact ix_dict value slice pins s σ H _ _ v u Q I rx ry ⟨a, kvs, _, w, rfl, rfl, ha, hw, hq _ _ (.same hd)⟩ hsub
theorem slIx_eq (n d : Nat) (o : Option Int) : slIx n d o = HT.sIx n d o := by cases o <;> rfl
theorem Dats.cut {vs : List V} {ds : List D} (h : Dats K F H vs ds) (lo hi : Option Int) : Dats K F H (cutV vs lo hi) (cutL ds lo hi) := by
  unfold cutV cutL
  rw [slIx_eq, slIx_eq, h.length]
  exact (h.drop _).take _
theorem cut_whole {α : Type} (xs : List α) {lo hi : Option Int} (h : HT.sIx xs.length 0 lo = 0 ∧ HT.sIx xs.length xs.length hi = xs.length) : cutL xs lo hi = xs := by
  unfold cutL
  rw [slIx_eq, slIx_eq, h.1, h.2]
  simp
def rSlOf (K : PySem.W.Frag) : V → Option Int → Option Int → Hp → VK → Prop := fun x lo hi H Q => ∃ F d res, Dat2 K F H x d ∧ opSl d lo hi = some res ∧ ∀ v H', NewR K F H v H' res → Q v H'
theorem Dats.ofInts : ∀ ns : List Int, Dats K F H (ns.map V.int) (ns.map .int)
  | [] => .nil
  | n :: ns => .cons (.int n) (Dats.ofInts ns)
theorem sl_ok : SlR X (rSlOf X.K) := by
  intro pins s σ H x v vl vu lo hi sl Q I rx hs pl pu h
  obtain ⟨F, d, res, hx, hg, hq⟩ := h
  cases d <;> try (simp [opSl] at hg; done)
  · rename_i ds
    have hl : ∃ a vs, x = .ref a ∧ SqL X.K H a vs ∧ Dats X.K F H vs ds := by
      cases hx with
      | sh hx => obtain ⟨a, vs, rfl, ha, da⟩ := hx.lst; exact ⟨a, vs, rfl, SqL.of ha, da⟩
      | sc hx => exact ⟨_, _, rfl, hx, .ofInts _⟩
    obtain ⟨a, vs, rfl, ha, da⟩ := hl
    cases hg
    exact sl_list pins s σ H _ v vl vu lo hi sl Q I rx hs pl pu ⟨a, vs, rfl, ha, fun p hp => hq _ _ (.lst hp (da.cut lo hi))⟩
  · rename_i ds
    have hl : Dat1 X.K F H x (.tuple ds) := by
      cases hx with
      | sh hx => exact hx
    obtain ⟨a, vs, rfl, ha, da⟩ := hl.tup
    cases hg
    refine sl_tupA pins s σ H _ v vl vu lo hi sl Q I rx hs pl pu ⟨a, vs, rfl, ha, fun hw => ?_, fun _ p hp => hq _ _ (.tup hp (da.cut lo hi))⟩
    rw [da.length] at hw
    refine hq _ _ (.same ?_)
    rw [cut_whole _ hw]
    cases hl with
    | sh hl => exact hl
/-! ### built-ins -/
inductive Dat1s (K : PySem.W.Frag) (F : Fz) (H : Hp) : List V → List D → Prop
  | nil : Dat1s K F H [] []
  | cons {v : V} {vs : List V} {d : D} {ds : List D} : Dat1 K F H v d → Dat1s K F H vs ds → Dat1s K F H (v :: vs) (d :: ds)
def rBOf (K : PySem.W.Frag) (g : List D → Option R) : List V → Hp → VK → Prop := fun vs H Q => ∃ F ds res, Dat1s K F H vs ds ∧ g ds = some res ∧ ∀ v H', NewR K F H v H' res → Q v H'
def rB1 (K : PySem.W.Frag) (g : D → Option R) : List V → Hp → VK → Prop := fun vs H Q => ∃ F v d res, vs = [v] ∧ Dat1 K F H v d ∧ g d = some res ∧ ∀ v H', NewR K F H v H' res → Q v H'
theorem len_ok : CallR X (.builtin "len") (rB1 X.K lenD) := by
  intro pins s σ H vs us Q I r h
  obtain ⟨F, x, d, res, rfl, hx, hg, hq⟩ := h
  cases d <;> try (simp [lenD] at hg; done)
  · cases hx.str
    obtain ⟨h1, rfl⟩ := gd_some hg
    exact call_len pins s σ H _ us Q I r ⟨_, _, rfl, ⟨by simpa [lim_eq] using h1, rfl⟩, hq _ _ (.same (.int _))⟩
  · obtain ⟨a, vs, rfl, ha, da⟩ := hx.lst
    cases hg
    exact call_len pins s σ H _ us Q I r ⟨_, _, rfl, .inl ⟨_, SqL.of ha, rfl⟩, by rw [da.length]; exact hq _ _ (.same (.int _))⟩
  · obtain ⟨a, vs, rfl, ha, da⟩ := hx.tup
    cases hg
    exact call_len pins s σ H _ us Q I r ⟨_, _, rfl, .inr ⟨_, ha, rfl⟩, by rw [da.length]; exact hq _ _ (.same (.int _))⟩
  · cases hg
    rename_i ds
    have hl : ∃ a kvs, x = .ref a ∧ H a = some (.dK kvs) ∧ kvs.length = ds.length := by
      cases hx with
      | sh hx => cases hx with
        | dK f e t u => exact ⟨_, _, rfl, e, by simpa using t.length⟩
      | od e t u => exact ⟨_, _, rfl, e, by simpa using t.length⟩
    obtain ⟨a, kvs, rfl, ha, e⟩ := hl
    refine call_lenD pins s σ H _ us Q I r ⟨a, kvs, rfl, ha, ?_⟩
    rw [e]
    exact hq _ _ (.same (.int _))
theorem abs_ok : CallR X (.builtin "abs") (rB1 X.K absD) := by
  intro pins s σ H vs us Q I r h
  obtain ⟨F, x, d, res, rfl, hx, hg, hq⟩ := h
  cases d <;> try (simp [absD] at hg; done)
  cases hx.int
  cases hg
  exact call_abs pins s σ H _ us Q I r ⟨_, rfl, hq _ _ (.same (.int _))⟩
theorem int_ok1 : CallR X (.type "int") (rB1 X.K intD) := by
  intro pins s σ H vs us Q I r h
  obtain ⟨F, x, d, res, rfl, hx, hg, hq⟩ := h
  cases d <;> try (simp [intD] at hg; done)
  · cases hx.bl
    cases hg
    exact call_int1 pins s σ H _ us Q I r (.inr ⟨_, rfl, hq _ _ (.same (.int _))⟩)
  · cases hx.int
    cases hg
    exact call_int1 pins s σ H _ us Q I r (.inl ⟨_, rfl, hq _ _ (.same (.int _))⟩)
theorem bool_ok1 : CallR X (.type "bool") (rB1 X.K boolD) := by
  intro pins s σ H vs us Q I r h
  obtain ⟨F, x, d, res, rfl, hx, hg, hq⟩ := h
  cases d <;> try (simp [boolD] at hg; done)
  · cases hx.bl
    cases hg
    exact call_bool1 pins s σ H _ us Q I r (.inr ⟨_, rfl, hq _ _ (.same (.bl _))⟩)
  · cases hx.int
    cases hg
    exact call_bool1 pins s σ H _ us Q I r (.inl ⟨_, rfl, hq _ _ (.same (.bl _))⟩)
theorem str_ok1 : CallR X (.type "str") (rB1 X.K strD) := by
  intro pins s σ H vs us Q I r h
  obtain ⟨F, x, d, res, rfl, hx, hg, hq⟩ := h
  cases d <;> try (simp [strD] at hg; done)
  cases hx.int
  obtain ⟨h1, rfl⟩ := gd_some hg
  exact call_str_int pins s σ H _ us Q I r ⟨_, rfl, by simpa using h1, hq _ _ (.same (.str _))⟩
theorem list_ok1 : CallR X (.type "list") (rB1 X.K listD) := by
  intro pins s σ H vs us Q I r h
  obtain ⟨F, x, d, res, rfl, hx, hg, hq⟩ := h
  simp only [listD, Option.map_eq_some_iff] at hg
  obtain ⟨ds, hs, rfl⟩ := hg
  obtain ⟨a, vs, rfl, ha, da⟩ := hx.seq hs
  exact call_list_of pins s σ H _ us Q I r ⟨a, vs, rfl, ha, fun l hl => hq _ _ (.lst hl da)⟩
theorem tuple_ok1 : CallR X (.type "tuple") (rB1 X.K tupleD) := by
  intro pins s σ H vs us Q I r h
  obtain ⟨F, x, d, res, rfl, hx, hg, hq⟩ := h
  simp only [tupleD, Option.map_eq_some_iff] at hg
  obtain ⟨ds, hs, rfl⟩ := hg
  cases d <;> try (cases hs; done)
  · cases hs
    obtain ⟨a, vs, rfl, ha, da⟩ := hx.lst
    exact call_tuple_of pins s σ H _ us Q I r ⟨a, vs, rfl, .inl ⟨SqL.of ha, fun l hl => hq _ _ (.tup hl da)⟩⟩
  · cases hs
    obtain ⟨a, vs, rfl, ha, da⟩ := hx.tup
    refine call_tuple_of pins s σ H _ us Q I r ⟨a, vs, rfl, .inr ⟨ha, hq _ _ (.same ?_)⟩⟩
    cases hx with
    | sh hx => exact hx
theorem ints_of : ∀ {ds : List D} {ns : List Int} {vs : List V}, intsOf ds = some ns → Dats K F H vs ds → vs = ns.map V.int
  | [], ns, vs, e, h => by cases e; cases h; rfl
  | d :: ds, ns, vs, e, h => by
    cases d <;> try (simp [intsOf] at e; done)
    simp only [intsOf, Option.map_eq_some_iff] at e
    obtain ⟨ms, e, rfl⟩ := e
    cases h with
    | cons h1 h2 =>
      cases h1
      rw [ints_of e h2]
      rfl
theorem bools_of : ∀ {ds : List D} {ns : List Bool} {vs : List V}, boolsOf ds = some ns → Dats K F H vs ds → vs = ns.map V.bl
  | [], ns, vs, e, h => by cases e; cases h; rfl
  | d :: ds, ns, vs, e, h => by
    cases d <;> try (simp [boolsOf] at e; done)
    simp only [boolsOf, Option.map_eq_some_iff] at e
    obtain ⟨ms, e, rfl⟩ := e
    cases h with
    | cons h1 h2 =>
      cases h1
      rw [bools_of e h2]
      rfl
theorem any_ok (hc : X.calm = true) : CallR X (.builtin "any") (rB1 X.K anyD) := by
  intro pins s σ H vs us Q I r h
  obtain ⟨F, x, d, res, rfl, hx, hg, hq⟩ := h
  cases d <;> try (simp [anyD] at hg; done)
  obtain ⟨a, vs, rfl, ha, da⟩ := hx.lst
  simp only [anyD, Option.map_eq_some_iff] at hg
  obtain ⟨bs, e, rfl⟩ := hg
  cases bools_of e da
  exact cr_any hc pins s σ H _ us Q I r ⟨a, bs, rfl, SqL.of ha, hq _ _ (.same (.bl _))⟩
theorem all_ok (hc : X.calm = true) : CallR X (.builtin "all") (rB1 X.K allD) := by
  intro pins s σ H vs us Q I r h
  obtain ⟨F, x, d, res, rfl, hx, hg, hq⟩ := h
  cases d <;> try (simp [allD] at hg; done)
  obtain ⟨a, vs, rfl, ha, da⟩ := hx.lst
  simp only [allD, Option.map_eq_some_iff] at hg
  obtain ⟨bs, e, rfl⟩ := hg
  cases bools_of e da
  exact cr_all hc pins s σ H _ us Q I r ⟨a, bs, rfl, SqL.of ha, hq _ _ (.same (.bl _))⟩
def rB2 (K : PySem.W.Frag) (g : D → D → Option R) : List V → Hp → VK → Prop := fun vs H Q => ∃ F v w d e res, vs = [v, w] ∧ Dat1 K F H v d ∧ Dat1 K F H w e ∧ g d e = some res ∧ ∀ v H', NewR K F H v H' res → Q v H'
theorem max2_ok (hc : X.calm = true) : CallR X (.builtin "max") (rB2 X.K max2) := by
  intro pins s σ H vs us Q I r h
  obtain ⟨F, x, y, d, e, res, rfl, hx, hy, hg, hq⟩ := h
  cases d <;> cases e <;> try (simp [max2] at hg; done)
  cases hx.int; cases hy.int
  cases hg
  exact call_max2 hc pins s σ H _ us Q I r ⟨_, _, rfl, hq _ _ (.same (.int _))⟩
theorem min2_ok (hc : X.calm = true) : CallR X (.builtin "min") (rB2 X.K min2) := by
  intro pins s σ H vs us Q I r h
  obtain ⟨F, x, y, d, e, res, rfl, hx, hy, hg, hq⟩ := h
  cases d <;> cases e <;> try (simp [min2] at hg; done)
  cases hx.int; cases hy.int
  cases hg
  exact call_min2 hc pins s σ H _ us Q I r ⟨_, _, rfl, hq _ _ (.same (.int _))⟩
/-! ### the least, the greatest -/
theorem not_none {d : D} (h : isNone d = false) : d ≠ .none := isNone_iff.mp h
theorem alikeAll_of {xs : List D} (h : allAlike xs = true) : W.AlikeAll xs := by
  unfold allAlike at h
  simp only [List.all_eq_true, Bool.and_eq_true, Bool.not_eq_true'] at h
  exact ⟨fun x hx y hy => (h x hx).2 y hy, fun x hx => not_none (h x hx).1⟩
theorem best_dat {pins : List (Addr × Obj)} {s : Shared} {ds : List D} {vs : List V} {its : List Value} (I : Inv X pins σ H s) (da : Dats X.K F H vs ds) (rv : Vals vs its) (hp : PyData.plainAll ds = true) {i : Nat} {u : Value} {h' : Heap} {m : D} {bs : List Addr}
    (hu : its[i]? = some u) (hr : Reads h' u m bs) (hk : ∀ b o, s.heap.get? b = some o → h'.get? b = some o) : ∃ v, RelV v u ∧ Dat X.K F H v m := by
  have hi : i < vs.length := by rw [rv.length]; exact (List.getElem?_eq_some_iff.mp hu).1
  obtain ⟨v, hv⟩ : ∃ v, vs[i]? = some v := ⟨_, List.getElem?_eq_getElem hi⟩
  obtain ⟨u', hu', ru⟩ := rv.get hv
  rw [hu] at hu'
  cases hu'
  obtain ⟨d, hd, dd⟩ := da.get' hv
  have hpl : d.plain = true := by
    have : ∀ (l : List D), PyData.plainAll l = true → ∀ x ∈ l, x.plain = true := by
      intro l
      induction l with
      | nil => intro _ x hx; cases hx
      | cons y l ih =>
        intro h x hx
        have h' : y.plain = true ∧ PyData.plainAll l = true := by simpa [PyData.plainAll] using h
        rcases List.mem_cons.mp hx with rfl | hx
        · exact h'.1
        · exact ih h'.2 x hx
    exact this ds hp d (List.mem_of_getElem? hd)
  obtain ⟨as, r1⟩ := Dat.reads I d v u dd hpl ru
  have e := SeqAt.plain_unique d m u as bs hpl (PyProof.Rows.Reads.keeps hk r1) hr
  subst e
  exact ⟨v, ru, dd⟩
theorem okOrd_iff {xs : List D} : okOrd xs = true ↔ allAlike xs = true ∧ PyData.plainAll xs = true ∧ PyData.depthAll xs ≤ 64 := by
  unfold okOrd
  simp [and_assoc]
theorem max_ok {k : Nat} (hr : Room k X.A) : CallR X (.builtin "max") (rB1 X.K maxD) := by
  intro pins s σ H vs us Q I r h
  obtain ⟨F, x, d, res, rfl, hx, hg, hq⟩ := h
  have hu := hr.un
  simp only [maxD, Option.bind_eq_some_iff] at hg
  obtain ⟨ds, hs, hg⟩ := hg
  cases ds with
  | nil => cases hg
  | cons y ys =>
    obtain ⟨h1, rfl⟩ := gd_some hg
    obtain ⟨h1, h2, h3⟩ := okOrd_iff.mp h1
    cases d <;> try (cases hs; done)
    · cases hs
      obtain ⟨a, ws, rfl, ha, da⟩ := hx.lst
      obtain ⟨its, rv, hl, _⟩ := I.list (SqL.of ha)
      obtain ⟨as, rr⟩ := Dats.reads I _ _ its da h2 rv
      rw [Vals.ref1 r]
      refine W.max_list_data hr.hd hl.isList rr (alikeAll_of h1) (by omega) fun i v h' tk bs hv hr' hk => ?_
      obtain ⟨w, rw', dw⟩ := best_dat (i := i) I da rv h2 (by simpa using hv) hr' hk
      exact ⟨w, H, I.kept hk, rw', hq _ _ (.same dw)⟩
    · cases hs
      obtain ⟨a, ws, rfl, ha, da⟩ := hx.tup
      obtain ⟨its, rv, hl, _⟩ := I.tuple ha
      obtain ⟨as, rr⟩ := Dats.reads I _ _ its da h2 rv
      rw [Vals.ref1 r]
      refine W.max_tuple_data hr.hd hl rr (alikeAll_of h1) (by omega) fun i v h' tk bs hv hr' hk => ?_
      obtain ⟨w, rw', dw⟩ := best_dat (i := i) I da rv h2 (by simpa using hv) hr' hk
      exact ⟨w, H, I.kept hk, rw', hq _ _ (.same dw)⟩
theorem min_ok {k : Nat} (hr : Room k X.A) : CallR X (.builtin "min") (rB1 X.K minD) := by
  intro pins s σ H vs us Q I r h
  obtain ⟨F, x, d, res, rfl, hx, hg, hq⟩ := h
  have hu := hr.un
  simp only [minD, Option.bind_eq_some_iff] at hg
  obtain ⟨ds, hs, hg⟩ := hg
  cases ds with
  | nil => cases hg
  | cons y ys =>
    obtain ⟨h1, rfl⟩ := gd_some hg
    obtain ⟨h1, h2, h3⟩ := okOrd_iff.mp h1
    cases d <;> try (cases hs; done)
    · cases hs
      obtain ⟨a, ws, rfl, ha, da⟩ := hx.lst
      obtain ⟨its, rv, hl, _⟩ := I.list (SqL.of ha)
      obtain ⟨as, rr⟩ := Dats.reads I _ _ its da h2 rv
      rw [Vals.ref1 r]
      refine W.min_list_data hr.hd hl.isList rr (alikeAll_of h1) (by omega) fun i v h' tk bs hv hr' hk => ?_
      obtain ⟨w, rw', dw⟩ := best_dat (i := i) I da rv h2 (by simpa using hv) hr' hk
      exact ⟨w, H, I.kept hk, rw', hq _ _ (.same dw)⟩
    · cases hs
      obtain ⟨a, ws, rfl, ha, da⟩ := hx.tup
      obtain ⟨its, rv, hl, _⟩ := I.tuple ha
      obtain ⟨as, rr⟩ := Dats.reads I _ _ its da h2 rv
      rw [Vals.ref1 r]
      refine W.min_tuple_data hr.hd hl rr (alikeAll_of h1) (by omega) fun i v h' tk bs hv hr' hk => ?_
      obtain ⟨w, rw', dw⟩ := best_dat (i := i) I da rv h2 (by simpa using hv) hr' hk
      exact ⟨w, H, I.kept hk, rw', hq _ _ (.same dw)⟩
theorem sum_ok {k : Nat} (hr : Room k X.A) (hc : X.calm = true) : CallR X (.builtin "sum") (rB1 X.K sumD) := by
  intro pins s σ H vs us Q I r h
  obtain ⟨F, x, d, res, rfl, hx, hg, hq⟩ := h
  simp only [sumD, Option.bind_eq_some_iff, Option.map_eq_some_iff] at hg
  obtain ⟨ds, hs, ns, hn, rfl⟩ := hg
  cases d <;> try (cases hs; done)
  · cases hs
    obtain ⟨a, ws, rfl, ha, da⟩ := hx.lst
    cases ints_of hn da
    exact cr_sum hc pins s σ H _ us Q I r ⟨a, ns, rfl, SqL.of ha, hq _ _ (.same (.int _))⟩
  · cases hs
    obtain ⟨a, ws, rfl, ha, da⟩ := hx.tup
    cases ints_of hn da
    obtain ⟨its, rv, hl, _⟩ := I.tuple ha
    rw [Vals.ref1 r]
    have hi := Vals.ints rv
    obtain ⟨xs, e⟩ := hi.allInts.items
    have hn : numsOf (intItems xs).toList = ns := by rw [← e]; exact hi.numsOf
    rw [nums_intItems] at hn
    rw [e] at hl
    refine W.ktm_sumG hr.hd (show s.heap.IsTuple a (intItems xs) from hl) fun h' tk t' hk => ?_
    have eq : preSum (numAt xs) xs.size = ns.sum := by rw [preSum_eq, List.take_of_length_le (by simp), hn]
    rw [eq]
    exact ⟨.int _, H, I.kept hk, ⟨_, rfl⟩, hq _ _ (.same (.int _))⟩
/-! ### sorted -/
inductive DatIs (K : PySem.W.Frag) (F : Fz) (H : Hp) : Value → D → Prop
  | mk {u : Value} {v : V} {d : D} : RelV v u → Dat K F H v d → DatIs K F H u d
theorem eachs : ∀ {vs : List V} {us : List Value} {ds : List D}, Dats K F H vs ds → Vals vs us → W.EachIs (DatIs K F H) us ds
  | [], _, _, h, r => by cases h; cases r; exact .nil
  | v :: vs, _, _, h, r => by
    cases h with
    | cons a b => cases r with
      | cons p q => exact .cons (.mk p a) (eachs b q)
theorem eachs_back : ∀ {us : List Value} {ds : List D}, W.EachIs (DatIs K F H) us ds → ∃ vs, Vals vs us ∧ Dats K F H vs ds
  | [], _, h => by cases h; exact ⟨[], .nil, .nil⟩
  | u :: us, _, h => by
    cases h with
    | cons a b =>
      cases a with
      | mk p q =>
        obtain ⟨vs, h1, h2⟩ := eachs_back b
        exact ⟨_ :: vs, .cons p h1, .cons q h2⟩
theorem plain_mem : ∀ {l : List D}, PyData.plainAll l = true → ∀ x ∈ l, x.plain = true
  | [], _, _, h => by cases h
  | y :: l, h, x, hx => by
    have h' : y.plain = true ∧ PyData.plainAll l = true := by simpa [PyData.plainAll] using h
    rcases List.mem_cons.mp hx with rfl | hx
    · exact h'.1
    · exact plain_mem h'.2 x hx
theorem depth_mem : ∀ {l : List D}, ∀ x ∈ l, x.depth ≤ PyData.depthAll l
  | [], _, h => by cases h
  | y :: l, x, hx => by
    simp only [PyData.depthAll]
    rcases List.mem_cons.mp hx with rfl | hx
    · exact Nat.le_max_left _ _
    · exact Nat.le_trans (depth_mem x hx) (Nat.le_max_right _ _)
theorem each_reads {pins : List (Addr × Obj)} {s : Shared} (I : Inv X pins σ H s) : ∀ {us : List Value} {ds : List D}, W.EachIs (DatIs X.K F H) us ds → PyData.plainAll ds = true → W.EachIs (fun v b => ∃ as, Reads s.heap v (id b) as) us ds
  | [], _, h, _ => by cases h; exact .nil
  | u :: us, _, h, p => by
    cases h with
    | @cons _ d _ ds a b =>
      have h' : d.plain = true ∧ PyData.plainAll ds = true := by simpa [PyData.plainAll] using p
      cases a with
      | mk q q2 => exact .cons (Dat.reads I _ _ _ q2 h'.1 q) (each_reads I b h'.2)
theorem sortable_of {xs : List D} (h : okSort xs = true) : W.Sortable xs := by
  unfold okSort at h
  rw [Bool.or_eq_true] at h
  rcases h with h | h
  · refine .inl fun d hd => ?_
    have q := List.all_eq_true.mp h d hd
    split at q
    · exact ⟨_, _, rfl⟩
    · cases q
  · refine .inr fun d hd => ?_
    have q := List.all_eq_true.mp h d hd
    split at q
    · cases q
    · cases q
    · rename_i h1 h2
      exact ⟨fun e => h2 e, fun xs e => h1 xs e⟩
theorem sorted_ok {k : Nat} (hr : Room k X.A) (hcalm : X.calm = true) : CallR X (.builtin "sorted") (rB1 X.K sortedD) := by
  intro pins s σ H vs us Q I r h
  obtain ⟨F, x, d, res, rfl, hx, hg, hq⟩ := h
  by_cases hdi : ∃ kvs, d = .dict kvs
  · obtain ⟨ds, rfl⟩ := hdi
    simp only [sortedD, Option.bind_eq_some_iff] at hg
    obtain ⟨ns, en, hg⟩ := hg
    obtain ⟨h1, rfl⟩ := gd_some hg
    simp only [Bool.and_eq_true, decide_eq_true_eq] at h1
    obtain ⟨a, kvs, rfl, ha, dk⟩ := hx.dct
    refine call_sortedDI hcalm pins s σ H _ us Q I r ⟨a, kvs, ns, rfl, .inl ha, intsK_ok dk en, h1.2, fun ys p pe pw hp => ?_⟩
    have nd : ys.Nodup := pe.nodup_iff.mpr h1.1
    have lt : ys.Pairwise (· < ·) := (pw.and nd).imp fun ⟨h1, h2⟩ => by omega
    have es : ys = ssetI ns := sorted_eq lt (ssetI_lt _) fun y => by rw [ssetI_mem, pe.mem_iff]
    subst es
    exact hq _ _ (.lst hp (Dats.ofInts _))
  have hu := hr.un
  cases d <;> try (simp [sortedD] at hg; done)
  rotate_left
  · exact absurd ⟨_, rfl⟩ hdi
  rename_i ds
  obtain ⟨h1, rfl⟩ := gd_some hg
  simp only [Bool.and_eq_true, decide_eq_true_eq, okOrd_iff] at h1
  obtain ⟨⟨⟨h1, h2, h3⟩, h4⟩, h5⟩ := h1
  obtain ⟨a, ws, rfl, ha, da⟩ := hx.lst
  obtain ⟨its, rv, hl, _⟩ := I.list (SqL.of ha)
  have ee := eachs da rv
  have er := each_reads I ee h2
  rw [Vals.ref1 r]
  have hal : W.AllAlike (ds.map id) := by
    rw [List.map_id]
    exact fun x hx y hy => (alikeAll_of h1).1 x hx y hy
  refine W.sorted_data (R := DatIs X.K F H) (enc := id) hl.isList ee er hal (by rw [List.map_id]; exact sortable_of h4) (by simpa [lim_eq] using h5) (fun b hb => ?_) fun out hlen eo => ?_
  · have := depth_mem b hb
    show X.A.units + 2 + b.depth < cLine
    omega
  · obtain ⟨vs', rv', dd'⟩ := eachs_back eo
    obtain ⟨ep, he'⟩ := PyProof.Rows.sortedAll_at s.heap its out.toArray
    have hz : vs'.length ≤ sizeLine := by rw [rv'.length, hlen]; simpa [lim_eq] using h5
    refine ⟨.ref (s.heap.objs.size + 1), upd H (s.heap.objs.size + 1) (.lst vs'), I.laid (t' := s.toks) (fun _ _ => PyProof.Rows.sortedAll_old) (Nat.le_succ _) ⟨hz, out, ep, rv', he'⟩, rfl, ?_⟩
    exact hq _ _ (.lst (I.hok.fresh (Nat.le_succ _)) dd')
/-! ### isinstance -/
def tyName : D → String
  | .none => "NoneType"
  | .bool _ => "bool"
  | .int _ => "int"
  | .str _ => "str"
  | .list _ => "list"
  | .tuple _ => "tuple"
  | .dict _ => "dict"
def tyId : Ty → String
  | .int => "int"
  | .bool => "bool"
  | .str => "str"
  | .list => "list"
  | .tuple => "tuple"
  | .dict => "dict"
def tyIn : Ty → String → Bool
  | .int, n => n == "int" || n == "bool"
  | .bool, n => n == "bool"
  | .str, n => n == "str"
  | .list, n => n == "list"
  | .tuple, n => n == "tuple"
  | .dict, n => n == "dict"
theorem Dat1.ty {v : V} {d : D} (h : Dat1 K F H v d) : TyX K H v (.type (tyName d)) := by
  cases h with
  | sh h => cases h with
    | non => exact .base .non
    | bl b => exact .base (.bl b)
    | int i => exact .base (.int i)
    | str x => exact .base (.str x)
    | lst f e t => exact .base (.lst e)
    | tup f e t => exact .base (.tup e)
    | ktup e t => obtain ⟨o, its, n, h1, h2, _⟩ := e; exact .kTuple h1 h2
    | dK f e t u => exact .base (.dK e)
  | ol e t => exact .base (.lst e)
  | od e t u => exact .base (.dK e)
theorem kit_tab (d : D) (t : Ty) : PySem.W.kitOne K (.type (tyName d)) (.type (tyId t)) = some (isTy t d) := by
  have tab : ∀ n ∈ ["NoneType", "bool", "int", "str", "list", "tuple", "dict"], kitB n (tyId t) = some (tyIn t n) := by cases t <;> decide +kernel
  have h1 : tyName d ∈ ["NoneType", "bool", "int", "str", "list", "tuple", "dict"] := by cases d <;> simp [tyName]
  have h2 : tyIn t (tyName d) = isTy t d := by cases d <;> cases t <;> rfl
  rw [← h2]
  exact kit_ty (tab _ h1)
theorem kit_any (d : D) : ∀ ts : List Ty, PySem.W.kitAny K (.type (tyName d)) (ts.map fun t => .type (tyId t)) = some (ts.any fun t => isTy t d)
  | [] => rfl
  | t :: ts => by
    rw [List.map_cons, List.any_cons]
    refine kitAny_cons (kit_tab d t) (fun h => ?_) fun h => ?_
    · rw [h, Bool.false_or]; exact kit_any d ts
    · rw [h, Bool.true_or]
end
end MI
namespace MI
open PySem PySem.Spec PyProof.Rows L2
variable {K : PySem.W.Frag} {F F' : Fz} {H H' : Hp} {O O' : Fz} {σ : L2.St} {ρ ρ' : Env}
/-! ### the judgements -/
structure PD (X : Cx) (xr : XRep) (W : WX) (e : Expr) (ev : Env → Out R) : Prop where
  run : ∃ t : TE, PE X e t ∧ ∀ F H O σ ρ Q, StI X.K F H O σ ρ → WantE X.K xr W σ F H O ρ (ev ρ) Q → t σ H Q
structure PDd (X : Cx) (xr : XRep) (W : WX) (e : Expr) (ev : Env → Out D) : Prop where
  run : ∃ t : TE, PE X e t ∧ ∀ F H O σ ρ Q, StI X.K F H O σ ρ → WantD X.K xr W σ F H O ρ (ev ρ) Q → t σ H Q
structure PDt (X : Cx) (xr : XRep) (W : WX) (e : Expr) (ev : Env → Out Bool) : Prop where
  run : ∃ t : TT, PT X e t ∧ ∀ F H O σ ρ Q, StI X.K F H O σ ρ → WantB X.K xr W σ F H O ρ (ev ρ) Q → t σ H Q
structure PDw (X : Cx) (xr : XRep) (W : WX) (e : Expr) (ev : Env → Out Bool) : Prop where
  run : ∃ t : TT, PW X e t ∧ ∀ F H O σ ρ Q, StI X.K F H O σ ρ → WantB X.K xr W σ F H O ρ (ev ρ) Q → t σ H Q
structure PDs (X : Cx) (xr : XRep) (W : WX) (es : List Expr) (ev : Env → Out (List D)) : Prop where
  run : ∃ t : TA, PA X es t ∧ ∀ F H O σ ρ Q, StI X.K F H O σ ρ → WantDs X.K xr W σ F H O ρ (ev ρ) Q → t σ H Q
inductive RepRs (K : PySem.W.Frag) (H0 : Hp) (F : Fz) (H : Hp) (O : Fz) (σ : L2.St) : List V → List R → Prop
  | nil : RepRs K H0 F H O σ [] []
  | cons {v : V} {vs : List V} {r : R} {rs : List R} : RepR K H0 F H O σ v r → RepRs K H0 F H O σ vs rs → RepRs K H0 F H O σ (v :: vs) (r :: rs)
section
variable {X : Cx} {xr : XRep} {W : WX}
theorem WantG.ex_after {α β γ δ : Type} {rep : Fz → Hp → Fz → β → α → Prop} {rep' : Fz → Hp → Fz → δ → γ → Prop} {x : Xn} {ρ2 : Env} {Q : β → Hp → Prop} {Q' : δ → Hp → Prop} (h : WantG K xr W rep σ F H O ρ (.ex x ρ2 : Out α) Q) (t : Stp F H O F' H' O') (p : Pin ρ ρ') :
    WantG K xr W rep' σ F' H' O' ρ' (.ex x ρ2 : Out γ) Q' := fun F2 H2 O2 c d S2 t2 p2 r => h F2 H2 O2 c d S2 (t.trans t2) (p.trans p2) r
theorem WantG.ex_any {α β γ δ : Type} {rep : Fz → Hp → Fz → β → α → Prop} {rep' : Fz → Hp → Fz → δ → γ → Prop} {x : Xn} {ρ2 : Env} {Q : β → Hp → Prop} {Q' : δ → Hp → Prop} (h : WantG K xr W rep σ F H O ρ (.ex x ρ2 : Out α) Q) :
    WantG K xr W rep' σ F H O ρ (.ex x ρ2 : Out γ) Q' := h
/-- SEQUENCING: what is wanted behind o, when k follows; all from the start F0 H0 O0 ρ0 -/
theorem WantG.seq {α β γ δ : Type} {rep : Fz → Hp → Fz → β → α → Prop} {rep' : Fz → Hp → Fz → δ → γ → Prop} {o : Out α} {k : α → Env → Out γ} {Q : β → Hp → Prop} {Q' : δ → Hp → Prop} {F0 O0 : Fz} {H0 : Hp} {ρ0 : Env}
    (t0 : Stp F0 H0 O0 F H O) (p0 : Pin ρ0 ρ) (h : WantG K xr W rep' σ F0 H0 O0 ρ0 (o.bind k) Q')
    (f : ∀ a ρ1 F1 H1 O1 b, StI K F1 H1 O1 σ ρ1 → Stp F H O F1 H1 O1 → Stp F0 H0 O0 F1 H1 O1 → Pin ρ0 ρ1 → rep F1 H1 O1 b a → WantG K xr W rep' σ F0 H0 O0 ρ0 (k a ρ1) Q' → Q b H1) : WantG K xr W rep σ F H O ρ o Q := by
  cases o with
  | ok a ρ1 => exact fun F1 H1 O1 b S t p r => f a ρ1 F1 H1 O1 b S t (t0.trans t) (p0.trans p) r h
  | ex x ρ1 => exact fun F1 H1 O1 c d S t p r => h F1 H1 O1 c d S (t0.trans t) (p0.trans p) r
  | no => exact h
theorem WantG.lift {α β : Type} {rep : Fz → Hp → Fz → β → α → Prop} {o : Option α} {ρ1 : Env} {Q : β → Hp → Prop} (h : WantG K xr W rep σ F H O ρ (Out.lift o ρ1) Q) : ∃ a, o = some a ∧ WantG K xr W rep σ F H O ρ (.ok a ρ1 : Out α) Q := by
  cases o with
  | none => exact h.elim
  | some a => exact ⟨a, rfl, h⟩
/-- the end of a value -/
theorem WantG.give {α β : Type} {rep : Fz → Hp → Fz → β → α → Prop} {a : α} {Q : β → Hp → Prop} {b : β} (h : WantG K xr W rep σ F H O ρ (.ok a ρ' : Out α) Q) (S : StI K F' H' O' σ ρ') (t : Stp F H O F' H' O') (p : Pin ρ ρ') (r : rep F' H' O' b a) : Q b H' := h F' H' O' b S t p r
theorem NewR.done {v : V} {r : R} {F0 O0 : Fz} {H0 : Hp} {ρ0 : Env} {Q : VK} (h : NewR K F H v H' r) (S : StI K F H O σ ρ) (t : Stp F0 H0 O0 F H O) (p : Pin ρ0 ρ) (w : WantE K xr W σ F0 H0 O0 ρ0 (.ok r ρ) Q) : Q v H' := by
  obtain ⟨F', S', t', rr⟩ := h.use S
  exact w F' H' O v S' (t.trans t') p (rr.from fun a e => t.none e)
theorem PD.ev {e : Expr} {ev ev' : Env → Out R} (h : PD X xr W e ev) (q : ∀ ρ, ev ρ = ev' ρ) : PD X xr W e ev' := by
  have : ev = ev' := funext q
  subst this
  exact h
theorem PDt.ev {e : Expr} {ev ev' : Env → Out Bool} (h : PDt X xr W e ev) (q : ∀ ρ, ev ρ = ev' ρ) : PDt X xr W e ev' := by
  have : ev = ev' := funext q
  subst this
  exact h
theorem PD.frz {e : Expr} {ev : Env → Out R} (h : PD X xr W e ev) : PDd X xr W e (fun ρ => (ev ρ).bind MI.frz) := by
  obtain ⟨t, ht, hh⟩ := h.run
  refine ⟨t, ht, fun F H O σ ρ Q S w => hh F H O σ ρ Q S ?_⟩
  refine WantG.seq .refl (.refl _) w fun r ρ1 F1 H1 O1 v S1 _ t1 p1 rr w1 => ?_
  cases q : MI.frz r ρ1 with
  | ok d ρ2 =>
    obtain ⟨F2, O2, z⟩ := frz_ok S1 rr q
    rw [q] at w1
    exact w1 F2 H1 O2 v z.st (z.stp t1) (p1.trans z.pin) z.dat
  | ex x ρ2 => exact (frz_ex q).elim
  | no => rw [q] at w1; exact w1.elim
/-! ### names, constants -/
theorem pd_var {i : Nat} {x : Str} {pos : Pos} (hN : X.N[i]? = some x) (hv : Vis X.env.scope x) (hd : (x == ("__debug__" : Str)) = false) (hcd : (x == ("__classdict__" : Str)) = false) (cx : Cxt) : PD X xr W (.Name x pos) (evE cx (.var i)) := by
  refine ⟨_, pe_var hN hv hd hcd, fun F H O σ ρ Q S w => ?_⟩
  cases e : ρ.get i with
  | none => simp only [evE, e] at w; exact w.elim
  | some m =>
    simp only [evE, e] at w
    obtain ⟨v, hv, rm⟩ := S.var i m e
    refine ⟨v, hv, ?_⟩
    cases m with
    | sh d => exact w F H O v S .refl (.refl _) rm
    | ol p xs => exact w F H O v S .refl (.refl _) hv
    | od p xs => exact w F H O v S .refl (.refl _) hv
    | ob C fs => exact w F H O v S .refl (.refl _) rm
    | sc ns => exact w F H O v S .refl (.refl _) rm
theorem pd_c {e : Expr} {v : V} {d : D} {ev : Env → Out R} (hp : PE X e (tC v)) (h : ∀ F H, Dat X.K F H v d) (q : ∀ ρ, ev ρ = .ok (.val d) ρ) : PD X xr W e ev :=
  ⟨_, hp, fun F H O σ ρ Q S w => by rw [q] at w; exact w F H O v S .refl (.refl _) (h F H)⟩
theorem pd_int {i : Int} {j : Nat} {pos : Pos} (cx : Cxt) : PD X xr W (.Constant (.int i) j pos) (evE cx (.int i)) := pd_c pe_int (fun _ _ => .int i) fun _ => by simp only [evE]
theorem pd_bl {i : Bool} {j : Nat} {pos : Pos} (cx : Cxt) : PD X xr W (.Constant (.bool i) j pos) (evE cx (.bl i)) := pd_c pe_bl (fun _ _ => .bl i) fun _ => by simp only [evE]
theorem pd_non {j : Nat} {pos : Pos} (cx : Cxt) : PD X xr W (.Constant .none j pos) (evE cx .non) := pd_c pe_non (fun _ _ => .non) fun _ => by simp only [evE]
theorem pd_str {s : String} {j : Nat} {pos : Pos} (cx : Cxt) : PD X xr W (.Constant (.str (Str.ofString s)) j pos) (evE cx (.str s)) := pd_c pe_str (fun _ _ => .str _) fun _ => by simp only [evE]
/-! ### operators -/
theorem pd_op2 {g : D → D → Option R} {ae be e : Expr} {eva evb : Env → Out R} (mk : ∀ ta tb, PE X ae ta → PE X be tb → PE X e (tOp (r2Of X.K g) ta tb)) (ha : PD X xr W ae eva) (hb : PD X xr W be evb) :
    PD X xr W e (fun ρ => (eva ρ).bind fun ra ρ => (evb ρ).bind fun rb ρ => Out.lift ((ra.cont ρ).bind fun x => (rb.cont ρ).bind fun y => g x y) ρ) := by
  obtain ⟨ta, pa, ka⟩ := ha.run
  obtain ⟨tb, pb, kb⟩ := hb.run
  refine ⟨_, mk ta tb pa pb, fun F H O σ ρ Q S w => ?_⟩
  refine ka F H O σ ρ _ S (WantG.seq .refl (.refl _) w fun ra ρ1 F1 H1 O1 va S1 _ t1 p1 r1 w => ?_)
  refine kb F1 H1 O1 σ ρ1 _ S1 (WantG.seq t1 p1 w fun rb ρ2 F2 H2 O2 vb S2 t12 t2 p2 r2 w => ?_)
  obtain ⟨res, he, w⟩ := w.lift
  simp only [Option.bind_eq_some_iff] at he
  obtain ⟨x, hx, y, hy, hg⟩ := he
  exact ⟨F2, x, y, res, cont_ok S2 (r1.stp S1 t12) hx, cont_ok S2 r2 hy, hg, fun v H' nr => nr.done S2 t2 p2 w⟩
theorem pd_bin {o : Op} {p : Operator} {a b : Expr} {x y : Ex} {pos : Pos} {cx : Cxt} (h : opOk o p = true) (ha : PD X xr W a (evE cx x)) (hb : PD X xr W b (evE cx y)) : PD X xr W (.BinOp a p b pos) (evE cx (.bin o x y)) :=
  (pd_op2 (fun ta tb pa pb => pe_op (bin_ok h) pa pb) ha hb).ev fun ρ => by simp only [evE]
theorem opR_imp {f : Value → Value → Sem Value} {r r' : R2} (h : OpR X f r) (i : ∀ x y H Q, r' x y H Q → r x y H Q) : OpR X f r' := fun pins s σ H x y v u Q I rx ry q => h pins s σ H x y v u Q I rx ry (i x y H Q q)
theorem cmp_ok' {k : Nat} (hr : Room k X.A) {o : Cp} {p : CmpOp} (h : cpOk o p = true) : OpR X (compareOp p) (r2Of X.K fun d e => (opCmp o d e).map fun c => .val (.bool c)) :=
  opR_imp (cmp_ok hr h) fun x y H Q ⟨F, d, e, res, hx, hy, hg, hq⟩ => by
    simp only [Option.map_eq_some_iff] at hg
    obtain ⟨c, hc, rfl⟩ := hg
    exact ⟨F, d, e, c, hx, hy, hc, hq _ _ (.same (.bl c))⟩
theorem behind_ok {o : Cp} {p : CmpOp} (h : cpOk o p = true) (b : Expr) (hb : behindInMarks p b = false) : behindInMarks p b = false := hb
theorem pd_cmp {k : Nat} (hr : Room k X.A) {o : Cp} {p : CmpOp} {a b : Expr} {x y : Ex} {pos : Pos} {cx : Cxt} (h : cpOk o p = true) (hm : behindInMarks p b = false) (ha : PD X xr W a (evE cx x)) (hb : PD X xr W b (evE cx y)) : PD X xr W (.Compare a [p] [b] pos) (evE cx (.cmp o x y)) :=
  (pd_op2 (fun ta tb pa pb => pe_cmpR (cmp_ok' hr h) pa pb hm) ha hb).ev fun ρ => by simp only [evE]
theorem pd_idx {a b : Expr} {x y : Ex} {pos : Pos} {cx : Cxt} (hs : PlainIx b) (ha : PD X xr W a (evE cx x)) (hb : PD X xr W b (evE cx y)) : PD X xr W (.Subscript a b pos) (evE cx (.idx x y)) :=
  (pd_op2 (fun ta tb pa pb => pe_ix idx_ok pa pb hs) ha hb).ev fun ρ => by simp only [evE]
theorem pd_neg {a : Expr} {x : Ex} {pos : Pos} {cx : Cxt} (ha : PD X xr W a (evE cx x)) : PD X xr W (.UnaryOp .USub a pos) (evE cx (.neg x)) := by
  obtain ⟨ta, pa, ka⟩ := ha.run
  refine ⟨_, pe_un un_neg pa, fun F H O σ ρ Q S w => ?_⟩
  simp only [evE] at w
  refine ka F H O σ ρ _ S (WantG.seq .refl (.refl _) w fun ra ρ1 F1 H1 O1 va S1 _ t1 p1 r1 w => ?_)
  split at w
  · rename_i i hi
    have := (cont_ok S1 r1 hi).int
    subst this
    exact ⟨i, rfl, w F1 H1 O1 _ S1 t1 p1 (.int _)⟩
  · exact w.elim
end
end MI
namespace MI
open PySem PySem.Spec PyProof.Rows L2
variable {K : PySem.W.Frag} {F F' : Fz} {H H' : Hp} {O O' : Fz} {σ : L2.St} {ρ ρ' : Env}
theorem truth_ok {v : V} {d : D} {b : Bool} (h : Dat1 K F H v d) (e : truth d = some b) : TruV K v H b := by
  cases d with
  | none => cases h.non; cases e; rfl
  | bool c => cases h.bl; cases e; rfl
  | int i => cases h.int; cases e; rfl
  | str x =>
    cases h.str
    obtain ⟨h1, rfl⟩ := gd_some e
    refine ⟨by simpa [lim_eq] using h1, ?_⟩
    show (x.length != 0) = (((x.length : Nat) : Int) != 0)
    generalize x.length = n
    cases n with
    | zero => rfl
    | succ n => rfl
  | list xs =>
    obtain ⟨a, vs, rfl, ha, da⟩ := h.lst
    cases e
    refine .inl ⟨vs, SqL.of ha, ?_⟩
    cases da <;> rfl
  | tuple xs =>
    obtain ⟨a, vs, rfl, ha, da⟩ := h.tup
    cases e
    refine .inr (.inl ⟨vs, ha, ?_⟩)
    cases da <;> rfl
  | dict kvs =>
    cases e
    have key : ∀ (ds : List (D × D)) (ks : List (Key × V)), Dats K F H (ks.map (·.2)) (ds.map (·.2)) → (!ds.isEmpty) = !ks.isEmpty := by
      intro ds ks q
      cases ds <;> cases ks <;> first | rfl | (cases q)
    cases h with
    | sh h => cases h with
      | dK f e t u => exact .inr (.inr ⟨_, e, key _ _ u⟩)
    | od e t u => exact .inr (.inr ⟨_, e, key _ _ u⟩)
section
variable {X : Cx} {xr : XRep} {W : WX} {cx : Cxt}
theorem truthR_ok {H0 : Hp} {v : V} {r : R} {o : Out Bool} (S : StI K F H O σ ρ) (h : RepR K H0 F H O σ v r) (e : truthR r ρ = o) : (∃ b, o = .ok b ρ ∧ TruV K v H b) ∨ o = .no := by
  subst e
  unfold truthR
  cases q : (r.cont ρ).bind truth with
  | none => exact .inr rfl
  | some b =>
    simp only [Option.bind_eq_some_iff] at q
    obtain ⟨d, hd, hb⟩ := q
    exact .inl ⟨b, rfl, truth_ok (cont_ok S h hd) hb⟩
theorem pd_not {a : Expr} {x : Ex} {pos : Pos} (ha : PD X xr W a (evE cx x)) : PD X xr W (.UnaryOp .Not a pos) (evE cx (.not x)) := by
  obtain ⟨ta, pa, ka⟩ := ha.run
  refine ⟨_, pe_notT pa, fun F H O σ ρ Q S w => ?_⟩
  simp only [evE] at w
  have w' : WantE X.K xr W σ F H O ρ ((evE cx x ρ).bind fun r ρ => (truthR r ρ).bind fun b ρ => .ok (.val (.bool (!b))) ρ) Q := by
    cases e : evE cx x ρ with
    | ok r ρ1 => rw [e] at w; exact w
    | ex z ρ1 => rw [e] at w; exact w
    | no => rw [e] at w; exact w
  refine ka F H O σ ρ _ S (WantG.seq .refl (.refl _) w' fun ra ρ1 F1 H1 O1 va S1 _ t1 p1 r1 w => ?_)
  rcases truthR_ok S1 r1 rfl with ⟨b, e, tv⟩ | e
  · rw [e] at w
    exact ⟨b, tv, w F1 H1 O1 _ S1 t1 p1 (.bl _)⟩
  · rw [e] at w; exact w.elim
/-- a test by the value's truth -/
theorem pdt_val {a : Expr} {x : Ex} (he : ∀ whole, isTrue a X.env whole = (do let v ← whole; standAt a.pos; holding [v] (truthy v))) (ha : PD X xr W a (evE cx x)) : PDt X xr W a (fun ρ => (evE cx x ρ).bind truthR) := by
  obtain ⟨ta, pa, ka⟩ := ha.run
  refine ⟨_, pt_truth pa he, fun F H O σ ρ Q S w => ?_⟩
  refine ka F H O σ ρ _ S (WantG.seq .refl (.refl _) w fun ra ρ1 F1 H1 O1 va S1 _ t1 p1 r1 w => ?_)
  rcases truthR_ok S1 r1 rfl with ⟨b, e, tv⟩ | e
  · rw [e] at w
    exact ⟨b, tv, w F1 H1 O1 _ S1 t1 p1 rfl⟩
  · rw [e] at w; exact w.elim
theorem pdt_cmp {k : Nat} (hr : Room k X.A) {o : Cp} {p : CmpOp} {a b : Expr} {x y : Ex} {pos : Pos} (h : cpOk o p = true) (hm : behindInMarks p b = false) (ha : PD X xr W a (evE cx x)) (hb : PD X xr W b (evE cx y)) :
    PDt X xr W (.Compare a [p] [b] pos) (fun ρ => (evE cx (.cmp o x y) ρ).bind truthR) := by
  obtain ⟨ta, pa, ka⟩ := ha.run
  obtain ⟨tb, pb, kb⟩ := hb.run
  refine ⟨_, pt_cmpR (cmp_ok hr h) pa pb hm, fun F H O σ ρ Q S w => ?_⟩
  have w' : WantB X.K xr W σ F H O ρ ((evE cx x ρ).bind fun ra ρ => (evE cx y ρ).bind fun rb ρ => (Out.lift ((ra.cont ρ).bind fun x => (rb.cont ρ).bind fun y => opCmp o x y) ρ)) Q := by
    simp only [evE] at w
    cases e1 : evE cx x ρ with
    | ok ra ρ1 =>
      simp only [e1, Out.bind] at w ⊢
      cases e2 : evE cx y ρ1 with
      | ok rb ρ2 =>
        simp only [e2, Out.bind] at w ⊢
        cases e3 : ((ra.cont ρ2).bind fun x => (rb.cont ρ2).bind fun y => (opCmp o x y)) with
        | none =>
          have e4 : ((ra.cont ρ2).bind fun x => (rb.cont ρ2).bind fun y => (opCmp o x y).map fun c => R.val (.bool c)) = none := by
            cases c1 : ra.cont ρ2 <;> simp [c1] at e3 ⊢
            rename_i d1
            cases c2 : rb.cont ρ2 <;> simp [c2] at e3 ⊢
            exact e3
          rw [e4] at w
          exact w
        | some c =>
          have e4 : ((ra.cont ρ2).bind fun x => (rb.cont ρ2).bind fun y => (opCmp o x y).map fun c => R.val (.bool c)) = some (.val (.bool c)) := by
            simp only [Option.bind_eq_some_iff] at e3
            obtain ⟨d1, h1, d2, h2, h3⟩ := e3
            simp [h1, h2, h3]
          rw [e4] at w
          exact w
      | ex z ρ2 => simp only [e2, Out.bind] at w ⊢; exact w
      | no => simp only [e2, Out.bind] at w ⊢; exact w
    | ex z ρ1 => simp only [e1, Out.bind] at w ⊢; exact w
    | no => simp only [e1, Out.bind] at w ⊢; exact w
  refine ka F H O σ ρ _ S (WantG.seq .refl (.refl _) w' fun ra ρ1 F1 H1 O1 va S1 _ t1 p1 r1 w => ?_)
  refine kb F1 H1 O1 σ ρ1 _ S1 (WantG.seq t1 p1 w fun rb ρ2 F2 H2 O2 vb S2 t12 t2 p2 r2 w => ?_)
  obtain ⟨c, he, w⟩ := w.lift
  simp only [Option.bind_eq_some_iff] at he
  obtain ⟨d, hd, e, he, hg⟩ := he
  exact ⟨F2, d, e, c, cont_ok S2 (r1.stp S1 t12) hd, cont_ok S2 r2 he, hg, c, rfl, w F2 H2 O2 c S2 t2 p2 rfl⟩
theorem pdt_not {a : Expr} {x : Ex} {pos : Pos} (ha : PDt X xr W a (evT cx x)) : PDt X xr W (.UnaryOp .Not a pos) (evT cx (.not x)) := by
  obtain ⟨ta, pa, ka⟩ := ha.run
  refine ⟨_, pt_not pa, fun F H O σ ρ Q S w => ?_⟩
  simp only [evT] at w
  refine ka F H O σ ρ _ S (WantG.seq .refl (.refl _) w fun ra ρ1 F1 H1 O1 va S1 _ t1 p1 r1 w => ?_)
  subst r1
  exact w F1 H1 O1 _ S1 t1 p1 rfl
theorem pdw_and1 {a : Expr} {pos : Pos} {ev : Env → Out Bool} (ha : PDt X xr W a ev) : PDw X xr W (.BoolOp .And [a] pos) ev := by
  obtain ⟨ta, pa, ka⟩ := ha.run
  exact ⟨_, pw_and1 pa, ka⟩
theorem pdw_or1 {a : Expr} {pos : Pos} {ev : Env → Out Bool} (ha : PDt X xr W a ev) : PDw X xr W (.BoolOp .Or [a] pos) ev := by
  obtain ⟨ta, pa, ka⟩ := ha.run
  exact ⟨_, pw_or1 pa, ka⟩
theorem PDw.pt {a : Expr} {ev : Env → Out Bool} (h : PDw X xr W a ev) : PDt X xr W a ev := by
  obtain ⟨ta, pa, ka⟩ := h.run
  exact ⟨_, pa.pt, ka⟩
theorem pdw_and {a b : Expr} {rest : List Expr} {x y : Ex} {pos : Pos} (ha : PDt X xr W a (evT cx x)) (hb : PDw X xr W (.BoolOp .And (b :: rest) pos) (evT cx y)) : PDw X xr W (.BoolOp .And (a :: b :: rest) pos) (evT cx (.and x y)) := by
  obtain ⟨ta, pa, ka⟩ := ha.run
  obtain ⟨tb, pb, kb⟩ := hb.run
  refine ⟨_, pw_and pa pb, fun F H O σ ρ Q S w => ?_⟩
  simp only [evT] at w
  refine ka F H O σ ρ _ S (WantG.seq .refl (.refl _) w fun c ρ1 F1 H1 O1 b S1 _ t1 p1 r1 w => ?_)
  subst r1
  cases b with
  | true => exact kb F1 H1 O1 σ ρ1 Q S1 (WantG.after (by simpa using w) t1 p1)
  | false => exact w F1 H1 O1 _ S1 t1 p1 rfl
theorem pdw_or {a b : Expr} {rest : List Expr} {x y : Ex} {pos : Pos} (ha : PDt X xr W a (evT cx x)) (hb : PDw X xr W (.BoolOp .Or (b :: rest) pos) (evT cx y)) : PDw X xr W (.BoolOp .Or (a :: b :: rest) pos) (evT cx (.or x y)) := by
  obtain ⟨ta, pa, ka⟩ := ha.run
  obtain ⟨tb, pb, kb⟩ := hb.run
  refine ⟨_, pw_or pa pb, fun F H O σ ρ Q S w => ?_⟩
  simp only [evT] at w
  refine ka F H O σ ρ _ S (WantG.seq .refl (.refl _) w fun c ρ1 F1 H1 O1 b S1 _ t1 p1 r1 w => ?_)
  subst r1
  cases b with
  | true => exact w F1 H1 O1 _ S1 t1 p1 rfl
  | false => exact kb F1 H1 O1 σ ρ1 Q S1 (WantG.after (by simpa using w) t1 p1)
/-- .. as values -/
theorem pd_one {o : BoolOp} {a : Expr} {pos : Pos} {ev : Env → Out R} (ha : PD X xr W a ev) : PD X xr W (.BoolOp o [a] pos) ev := by
  obtain ⟨ta, pa, ka⟩ := ha.run
  exact ⟨_, pe_one pa, ka⟩
theorem pd_and {a b : Expr} {rest : List Expr} {x y : Ex} {pos : Pos} (ha : PD X xr W a (evE cx x)) (hb : PD X xr W (.BoolOp .And (b :: rest) pos) (evE cx y)) : PD X xr W (.BoolOp .And (a :: b :: rest) pos) (evE cx (.and x y)) := by
  obtain ⟨ta, pa, ka⟩ := ha.run
  obtain ⟨tb, pb, kb⟩ := hb.run
  refine ⟨_, pe_and pa pb, fun F H O σ ρ Q S w => ?_⟩
  simp only [evE] at w
  refine ka F H O σ ρ _ S (WantG.seq .refl (.refl _) w fun r ρ1 F1 H1 O1 v S1 _ t1 p1 r1 w => ?_)
  split at w
  · cases r1
    exact ⟨true, rfl, kb F1 H1 O1 σ ρ1 Q S1 (WantE.after w t1 p1)⟩
  · cases r1
    exact ⟨false, rfl, w F1 H1 O1 _ S1 t1 p1 (.bl _)⟩
  · exact w.elim
theorem pd_or {a b : Expr} {rest : List Expr} {x y : Ex} {pos : Pos} (ha : PD X xr W a (evE cx x)) (hb : PD X xr W (.BoolOp .Or (b :: rest) pos) (evE cx y)) : PD X xr W (.BoolOp .Or (a :: b :: rest) pos) (evE cx (.or x y)) := by
  obtain ⟨ta, pa, ka⟩ := ha.run
  obtain ⟨tb, pb, kb⟩ := hb.run
  refine ⟨_, pe_or pa pb, fun F H O σ ρ Q S w => ?_⟩
  simp only [evE] at w
  refine ka F H O σ ρ _ S (WantG.seq .refl (.refl _) w fun r ρ1 F1 H1 O1 v S1 _ t1 p1 r1 w => ?_)
  split at w
  · cases r1
    exact ⟨false, rfl, kb F1 H1 O1 σ ρ1 Q S1 (WantE.after w t1 p1)⟩
  · cases r1
    exact ⟨true, rfl, w F1 H1 O1 _ S1 t1 p1 (.bl _)⟩
  · exact w.elim
theorem pd_ite {c a b : Expr} {z x y : Ex} {pos : Pos} (hc : PDt X xr W c (evT cx z)) (ha : PD X xr W a (evE cx x)) (hb : PD X xr W b (evE cx y)) : PD X xr W (.IfExp c a b pos) (evE cx (.ite z x y)) := by
  obtain ⟨tc, pc, kc⟩ := hc.run
  obtain ⟨ta, pa, ka⟩ := ha.run
  obtain ⟨tb, pb, kb⟩ := hb.run
  refine ⟨_, pe_ifExp pc pa pb, fun F H O σ ρ Q S w => ?_⟩
  simp only [evE] at w
  refine kc F H O σ ρ _ S (WantG.seq .refl (.refl _) w fun k ρ1 F1 H1 O1 b S1 _ t1 p1 r1 w => ?_)
  subst r1
  cases b with
  | true => exact ka F1 H1 O1 σ ρ1 Q S1 (WantE.after (by simpa using w) t1 p1)
  | false => exact kb F1 H1 O1 σ ρ1 Q S1 (WantE.after (by simpa using w) t1 p1)
/-! ### argument lists, displays -/
theorem pds_nil : PDs X xr W [] (evDs cx []) := ⟨_, pa_nil, fun F H O σ ρ Q S w => by simp only [evDs] at w; exact w F H O _ S .refl (.refl _) .nil⟩
theorem pds_cons {e : Expr} {es : List Expr} {x : Ex} {xs : List Ex} (hs : starEach (e :: es) X.env = (false, eval e X.env) :: starEach es X.env) (ha : PD X xr W e (evE cx x)) (hb : PDs X xr W es (evDs cx xs)) : PDs X xr W (e :: es) (evDs cx (x :: xs)) := by
  obtain ⟨ta, pa, ka⟩ := ha.frz.run
  obtain ⟨tb, pb, kb⟩ := hb.run
  refine ⟨_, pa_cons pa pb hs, fun F H O σ ρ Q S w => ?_⟩
  simp only [evDs] at w
  refine ka F H O σ ρ _ S (WantG.seq .refl (.refl _) w fun d ρ1 F1 H1 O1 v S1 _ t1 p1 r1 w => ?_)
  refine kb F1 H1 O1 σ ρ1 _ S1 (WantG.seq t1 p1 w fun ds ρ2 F2 H2 O2 vs S2 t12 t2 p2 r2 w => ?_)
  exact w F2 H2 O2 _ S2 t2 p2 (.cons (Dat.ext (S1.ext t12) r1) r2)
theorem pd_tup {es : List Expr} {xs : List Ex} {k : Nat} {pos : Pos} (h : PDs X xr W es (evDs cx xs)) : PD X xr W (.Tuple es k pos) (evE cx (.tup xs)) := by
  obtain ⟨t, p, kk⟩ := h.run
  refine ⟨_, pe_tup p, fun F H O σ ρ Q S w => ?_⟩
  simp only [evE] at w
  refine kk F H O σ ρ _ S (WantG.seq .refl (.refl _) w fun ds ρ1 F1 H1 O1 vs S1 _ t1 p1 r1 w => ?_)
  split at w
  · rename_i hl
    exact ⟨by rw [r1.length]; simpa [lim_eq] using hl, fun p hp => (NewR.tup hp r1).done S1 t1 p1 w⟩
  · exact w.elim
theorem pd_lst {es : List Expr} {xs : List Ex} {pos : Pos} (h : PDs X xr W es (evDs cx xs)) : PD X xr W (.List es pos) (evE cx (.lst xs)) := by
  obtain ⟨t, p, kk⟩ := h.run
  refine ⟨_, pe_lst p, fun F H O σ ρ Q S w => ?_⟩
  simp only [evE] at w
  refine kk F H O σ ρ _ S (WantG.seq .refl (.refl _) w fun ds ρ1 F1 H1 O1 vs S1 _ t1 p1 r1 w => ?_)
  split at w
  · rename_i hl
    exact ⟨by rw [r1.length]; simpa [lim_eq] using hl, fun p hp => (NewR.lst hp r1).done S1 t1 p1 w⟩
  · exact w.elim
end
end MI
namespace MI
open PySem PySem.Spec PyProof.Rows L2
variable {K : PySem.W.Frag} {F F' : Fz} {H H' : Hp} {O O' : Fz} {σ : L2.St} {ρ ρ' : Env}
section
variable {X : Cx} {xr : XRep} {W : WX} {cx : Cxt}
/-! ### cuts -/
structure PDo (X : Cx) (xr : XRep) (W : WX) (e : Option Expr) (ev : Env → Out (Option Int)) : Prop where
  run : ∃ t : TO, PO X e t ∧ ∀ F H O σ ρ Q, StI X.K F H O σ ρ → WantG X.K xr W (fun _ _ _ b a => b = a) σ F H O ρ (ev ρ) Q → t σ H Q
theorem pdo_none : PDo X xr W none (fun ρ => .ok none ρ) :=
  ⟨_, po_none, fun F H O σ ρ Q S w => w F H O none S .refl (.refl _) rfl⟩
theorem pdo_some {e : Expr} {x : Ex} (h : PD X xr W e (evE cx x)) : PDo X xr W (some e) (fun ρ => ((evE cx x ρ).bind MI.frz).bind someInt) := by
  obtain ⟨t, p, k⟩ := h.frz.run
  refine ⟨_, po_some p, fun F H O σ ρ Q S w => ?_⟩
  refine k F H O σ ρ _ S (WantG.seq .refl (.refl _) w fun d ρ1 F1 H1 O1 v S1 _ t1 p1 r1 w => ?_)
  cases d with
  | int i =>
    cases r1
    exact ⟨i, rfl, w F1 H1 O1 _ S1 t1 p1 rfl⟩
  | none => exact w.elim
  | bool b => exact w.elim
  | str b => exact w.elim
  | list b => exact w.elim
  | tuple b => exact w.elim
  | dict b => exact w.elim
def evO (cx : Cxt) (o : Option Ex) (ρ : Env) : Out (Option Int) := match o with
  | none => .ok none ρ
  | some e => ((evE cx e ρ).bind MI.frz).bind someInt
theorem evE_sl (a : Ex) (lo hi : Option Ex) (ρ : Env) : evE cx (.sl a lo hi) ρ = (evE cx a ρ).bind fun ra ρ => (evO cx lo ρ).bind fun l ρ => (evO cx hi ρ).bind fun h ρ => Out.lift ((ra.contS ρ).bind fun x => opSl x l h) ρ := by
  cases lo <;> cases hi <;> simp only [evE, evO]
theorem pd_sl {a : Expr} {lo hi : Option Expr} {x : Ex} {l h : Option Ex} {p2 pos : Pos} (ha : PD X xr W a (evE cx x)) (hl : PDo X xr W lo (evO cx l)) (hh : PDo X xr W hi (evO cx h)) :
    PD X xr W (.Subscript a (.Slice lo hi none p2) pos) (evE cx (.sl x l h)) := by
  obtain ⟨ta, pa, ka⟩ := ha.run
  obtain ⟨tl, pl, kl⟩ := hl.run
  obtain ⟨th, ph, kh⟩ := hh.run
  refine ⟨_, pe_slice sl_ok pa pl ph, fun F H O σ ρ Q S w => ?_⟩
  rw [evE_sl] at w
  refine ka F H O σ ρ _ S (WantG.seq .refl (.refl _) w fun ra ρ1 F1 H1 O1 va S1 _ t1 p1 r1 w => ?_)
  refine kl F1 H1 O1 σ ρ1 _ S1 (WantG.seq t1 p1 w fun ol ρ2 F2 H2 O2 vl S2 t12 t2 p2 r2 w => ?_)
  refine kh F2 H2 O2 σ ρ2 _ S2 (WantG.seq t2 p2 w fun oh ρ3 F3 H3 O3 vh S3 t23 t3 p3 r3 w => ?_)
  obtain ⟨res, he, w'⟩ := w.lift
  simp only [Option.bind_eq_some_iff] at he
  obtain ⟨d, hd, hg⟩ := he
  subst r2 r3
  exact ⟨F3, d, res, contS_ok S3 ((r1.stp S1 t12).stp S2 t23) hd, hg, fun v H' nr => nr.done S3 t3 p3 w'⟩
/-! ### xs[::-1] -/
theorem rev_applied {prog : Program} {w : World} {A : Around} {E : Value → Shared → Prop} {s : Shared} {sl : Addr} {vl vu vs : Value} {n : Nat} {Q : Int × Int × Nat → Shared → Prop} (hs : s.heap.IsSliceOf sl vl vu vs) (pl : IsPart vl none) (pu : IsPart vu none) (ps : IsPart vs (some (-1)))
    (h : Q ((n : Int) - 1, -1, n) s) : wpAny (model prog w) A (Builtin.Slice.sliceApplied (.ref sl) (pure (n : Int))) Q E s := by
  obtain ⟨os, hos, hcs, hds⟩ := id hs
  unfold Builtin.Slice.sliceApplied Builtin.Slice.sliceFields
  refine wpAny_bind (wpAny_bind (wpAny_field hos hds (x := vl) rfl (wpAny_bind (wpAny_field hos hds (x := vu) rfl (wpAny_bind (wpAny_field hos hds (x := vs) rfl (wpAny_pure ?_)))))))
  refine wpAny_bind (HT.slicePart_ ps ?_)
  show wpAny _ _ (if ((-1 : Int) == 0) = true then _ else _) _ _ s
  rw [if_neg (by decide)]
  refine wpAny_bind (HT.slicePart_ pl (wpAny_bind (HT.slicePart_ pu (wpAny_bind (wpAny_pure ?_)))))
  have e1 : Builtin.Slice.sliceAdjust none none (-1) (n : Int) = ((n : Int) - 1, -1) := by
    unfold Builtin.Slice.sliceAdjust
    simp
  have e2 : Builtin.Slice.slicePlaces ((n : Int) - 1) (-1) (-1) = n := by
    unfold Builtin.Slice.slicePlaces
    rw [if_neg (by decide)]
    by_cases q : ((n : Int) - 1 > -1)
    · rw [if_pos q]
      have : -(-1 : Int) = 1 := rfl
      rw [this, Int.ediv_one]
      omega
    · rw [if_neg q]; omega
  show wpAny _ _ (match Builtin.Slice.sliceAdjust none none (-1) (n : Int) with | (lo, hi) => pure (lo, (-1 : Int), Builtin.Slice.slicePlaces lo hi (-1))) _ _ s
  rw [e1]
  show wpAny _ _ (pure ((n : Int) - 1, (-1 : Int), Builtin.Slice.slicePlaces ((n : Int) - 1) (-1) (-1))) _ _ s
  rw [e2]
  exact wpAny_pure h
theorem rev_pick (xs : Array Value) : ((List.range xs.size).filterMap fun (m : Nat) => xs[((xs.size : Int) - 1 + (m : Int) * (-1)).toNat]?).toArray = xs.toList.reverse.toArray := by
  congr 1
  have e : (fun (m : Nat) => xs[((xs.size : Int) - 1 + (m : Int) * (-1)).toNat]?) = fun (m : Nat) => xs.toList[((xs.toList.length : Int) - 1 + (m : Int) * (-1)).toNat]? := by
    funext m
    rw [Array.getElem?_toList]
    rfl
  rw [e]
  have l : xs.size = xs.toList.length := rfl
  rw [l]
  generalize xs.toList = ys
  have key : ∀ k, k ≤ ys.length → (List.range k).filterMap (fun (m : Nat) => ys[((ys.length : Int) - 1 + (m : Int) * (-1)).toNat]?) = ys.reverse.take k := by
    intro k
    induction k with
    | zero => intro _; rfl
    | succ k ih =>
      intro hk
      rw [List.range_succ, List.filterMap_append, ih (by omega), List.take_add_one]
      congr 1
      have e3 : ((ys.length : Int) - 1 + (k : Int) * (-1)).toNat = ys.length - 1 - k := by omega
      rw [List.filterMap_cons, e3, List.getElem?_reverse (by omega), List.getElem?_eq_getElem (by omega)]
      rfl
  have := key ys.length (Nat.le_refl _)
  rw [this, ← List.length_reverse, List.take_length]
theorem getItem_tuple_rev {prog : Program} {w : World} {A : Around} {E : Value → Shared → Prop} {s : Shared} {t sl : Addr} {items : Array Value} {vl vu vs : Value} {Q : Value → Shared → Prop} (ht : IsTup s.heap t items) (hs : s.heap.IsSliceOf sl vl vu vs) (pl : IsPart vl none) (pu : IsPart vu none) (ps : IsPart vs (some (-1)))
    (h : Q (.ref s.heap.objs.size) { s with heap := s.heap.push { cls := .type "tuple", data := .seq items.toList.reverse.toArray } }) (hsz : items.size ≤ sizeLine) : wpAny (model prog w) A (getItem (.ref t) (.ref sl)) Q E s := by
  obtain ⟨os, hos, hcs, hds⟩ := id hs
  have hTs : s.TypeIs (.ref sl) "slice" := ⟨os, hos, hcs⟩
  have htake : sizeOk (.seq items.toList.reverse.toArray) := by
    show items.toList.reverse.toArray.size ≤ sizeLine
    rw [List.size_toArray, List.length_reverse, Array.length_toList]
    exact hsz
  unfold getItem
  try with_reducible refine wpAny_holding ?_
  first | refine wpAny_bind (wpAny_pure ?_) | skip
  refine wpAny_bind (wpAny_sequenceKey ht.typeIs (by decide) ?_)
  refine wpAny_bind (wpAny_callSpecial?_slot (name := Str.ofString "__getitem__") ht.typeIs PyProof.Rows.slot_tuple_getitem
    (wpAny_call_entry PyProof.Rows.slot_tuple_getitem ht.typeIs entry_tuple_getitem ?_ (args_tuple_getitem _ _)))
  show wpAny _ _ (Builtin.Tuple.tupleItemsOf (.ref t) >>= _) _ _ s
  refine wpAny_bind (tupleItemsOf_ ht ?_)
  refine wpAny_bind (wpAny_typeOf hTs ?_)
  rw [if_pos (by decide)]
  refine wpAny_bind (rev_applied hs pl pu ps ?_)
  show wpAny _ _ (if (((items.size : Int) - 1) == 0 && (-1 : Int) == 1 && items.size == items.size) = true then _ else _) _ _ s
  rw [if_neg (by simp), rev_pick]
  first
    | exact wpAny_bind (m := Builtin.Tuple.tupleExact _) (wpAny_newObj_type (wpAny_pure ⟨_, rfl, wpAny_pure h⟩) htake)
    | exact wpAny_bind (m := Builtin.Tuple.tupleExact _) (wpAny_newObj_type (wpAny_bind (wpAny_pure (wpAny_pure ⟨_, rfl, wpAny_pure h⟩))) htake)
    | exact wpAny_bind (wpAny_bind (m := Builtin.Tuple.tupleExact _) (wpAny_newObj_type (wpAny_pure (wpAny_pure ⟨_, rfl, wpAny_pure h⟩)) htake))
    | exact wpAny_bind (wpAny_bind (m := Builtin.Tuple.tupleExact _) (wpAny_newObj_type (wpAny_pure ⟨_, rfl, wpAny_pure h⟩) htake))
def tRevA (K : PySem.W.Frag) (te : TE) : TE := fun σ H Q => te σ H fun x H1 => ∃ F d res, Dat1 K F H1 x d ∧ opRev d = some res ∧ ∀ v H', NewR K F H1 v H' res → Q v H'
theorem pe_revA {e : Expr} {te : TE} {k : Nat} {p1 p2 p3 pos : Pos} (he : PE X e te) : PE X (.Subscript e (.Slice none none (some (.UnaryOp .USub (.Constant (.int 1) k p1) p2)) p3) pos) (tRevA X.K te) := by
  refine ⟨fun pins s σ H Q I h => ?_⟩
  refine Subscript_ (thn (he.run pins s σ H _ I h) fun v s1 ⟨x, H1, I1, r1, q1⟩ => ?_)
  obtain ⟨F, d, res, hd, hg, q⟩ := q1
  have hst : PO X (some (.UnaryOp .USub (.Constant (.int 1) k p1) p2)) (tPart (tUn (rU fun i => .int (-i)) (tC (.int 1)))) := po_some (pe_un un_neg pe_int)
  refine wpAny_Slice (thn (po_none.run pins s1 σ H1 (fun o H2 => o = none ∧ H2 = H1) I1 ⟨rfl, rfl⟩) fun vl s2 ⟨l, H2, I2, pl, el, e2⟩ => ?_)
  subst el e2
  refine thn (po_none.run pins s2 σ H2 (fun o H3 => o = none ∧ H3 = H2) I2 ⟨rfl, rfl⟩) fun vu s3 ⟨u, H3, I3, pu, eu, e3⟩ => ?_
  subst eu e3
  refine thn (hst.run pins s3 σ H3 (fun o H4 => o = some (-1) ∧ H4 = H3) I3 ⟨1, rfl, -1, rfl, rfl, rfl⟩) fun vs s4 ⟨o, H4, I4, ps, eo, e4⟩ => ?_
  subst eo e4
  have I5 : Inv X pins σ H4 { s4 with heap := s4.heap.push { cls := .type "slice", data := .fields #[vl, vu, vs] } } := I4.kept (t' := s4.toks) fun b ob q => Heap.get?_push_of_some _ q
  cases d <;> try (cases hg; done)
  · obtain ⟨a, ws, rfl, ha, da⟩ := hd.lst
    cases r1
    cases hg
    obtain ⟨its, r, ht, hz⟩ := I5.list (SqL.of ha)
    have hlen := r.length
    show wpAny (model X.prog X.w) X.A (subscriptTail e (.Slice none none (some (.UnaryOp .USub (.Constant (.int 1) k p1) p2)) p3) (.ref a) (.ref s4.heap.objs.size)) (EP X pins σ Q) X.xe { s4 with heap := s4.heap.push { cls := .type "slice", data := .fields #[vl, vu, vs] } }
    refine tail_any (ops := [.ref a, .ref s4.heap.objs.size]) ht.isList.typeIs (PySem.slot_list_getitem.lookup) ?_ (by with_unfolding_all rfl)
    refine wpAny_getItem_list_slice ht.isList (Heap.IsSliceOf.new _ vl vu vs) pl pu ps (by decide) ?_ (by rw [List.size_toArray]; omega)
    rw [PySem.W.krv_pick]
    refine ⟨.ref _, _, I5.laid (t' := s4.toks) (o := .lst ws.reverse) (fun b ob q => Heap.get?_push_of_some _ q) (Nat.le_refl _) ?_, rfl, q _ _ (.lst (I5.hok.fresh (Nat.le_refl _)) da.reverse)⟩
    exact ⟨by rw [List.length_reverse]; exact hz, _, 0, r.reverse, Heap.get?_push_size _ rfl⟩
  · obtain ⟨a, ws, rfl, ha, da⟩ := hd.tup
    cases r1
    cases hg
    obtain ⟨its, r, ht, hz⟩ := I5.tuple ha
    have hlen := r.length
    show wpAny (model X.prog X.w) X.A (subscriptTail e (.Slice none none (some (.UnaryOp .USub (.Constant (.int 1) k p1) p2)) p3) (.ref a) (.ref s4.heap.objs.size)) (EP X pins σ Q) X.xe { s4 with heap := s4.heap.push { cls := .type "slice", data := .fields #[vl, vu, vs] } }
    refine tail_any (ops := [.ref a, .ref s4.heap.objs.size]) ht.typeIs (PyProof.Rows.slot_tuple_getitem.lookup) ?_ (by with_unfolding_all rfl)
    refine getItem_tuple_rev ht (Heap.IsSliceOf.new _ vl vu vs) pl pu ps ?_ (by rw [List.size_toArray]; omega)
    refine ⟨.ref _, _, I5.laid (t' := s4.toks) (o := .tup ws.reverse) (fun b ob q => Heap.get?_push_of_some _ q) (Nat.le_refl _) ?_, rfl, q _ _ (.tup (I5.hok.fresh (Nat.le_refl _)) da.reverse)⟩
    exact ⟨by rw [List.length_reverse]; exact hz, _, r.reverse, IsTup.new _ _⟩
theorem pd_rev {e : Expr} {x : Ex} {k : Nat} {p1 p2 p3 pos : Pos} (he : PD X xr W e (evE cx x)) : PD X xr W (.Subscript e (.Slice none none (some (.UnaryOp .USub (.Constant (.int 1) k p1) p2)) p3) pos) (evE cx (.rev x)) := by
  obtain ⟨t, p, kk⟩ := he.run
  refine ⟨_, pe_revA p, fun F H O σ ρ Q S w => ?_⟩
  simp only [evE] at w
  refine kk F H O σ ρ _ S (WantG.seq .refl (.refl _) w fun ra ρ1 F1 H1 O1 va S1 _ t1 p1 r1 w => ?_)
  obtain ⟨res, hg, w⟩ := w.lift
  simp only [Option.bind_eq_some_iff] at hg
  obtain ⟨d, hd, hg⟩ := hg
  exact ⟨F1, d, res, cont_ok S1 r1 hd, hg, fun v H' nr => nr.done S1 t1 p1 w⟩
end
end MI
namespace MI
open PySem PySem.Spec PyProof.Rows L2
variable {K : PySem.W.Frag} {F F' : Fz} {H H' : Hp} {O O' : Fz} {σ : L2.St} {ρ ρ' : Env}
/-! ### no stars -/
def noStar : Expr → Bool
  | .Starred _ _ => false
  | _ => true
theorem star_one {e : Expr} (h : noStar e = true) (es : List Expr) (env : PySem.Env) : starEach (e :: es) env = (false, eval e env) :: starEach es env := by
  cases e <;> first | rfl | cases h
theorem star_no : ∀ {es : List Expr}, es.all noStar = true → ∀ (pos : Pos) (env : PySem.Env), (backTo pos (starEach es env)).any (·.1) = false
  | [], _, _, _ => rfl
  | e :: es, h, pos, env => by
    have h' : noStar e = true ∧ es.all noStar = true := by simpa using h
    rw [star_one h'.1]
    show (false || (backTo pos (starEach es env)).any (·.1)) = false
    rw [Bool.false_or]
    exact star_no h'.2 pos env
section
variable {X : Cx} {xr : XRep} {W : WX} {cx : Cxt}
/-! ### a < b <= c -/
abbrev RunE (X : Cx) (xr : XRep) (W : WX) (t : TE) (ev : Env → Out R) : Prop := ∀ F H O σ ρ Q, StI X.K F H O σ ρ → WantE X.K xr W σ F H O ρ (ev ρ) Q → t σ H Q
theorem chain_run {o p : Cp} {x y z : Ex} {ta tb tc : TE} (ka : RunE X xr W ta (evE cx x)) (kb : RunE X xr W tb (evE cx y)) (kc : RunE X xr W tc (evE cx z)) :
    RunE X xr W (tChain (r2Of X.K fun d e => (opCmp o d e).map fun c => .val (.bool c)) (r2Of X.K fun d e => (opCmp p d e).map fun c => .val (.bool c)) ta tb tc) (evE cx (.chain o p x y z)) := by
  intro F H O σ ρ Q S w
  simp only [evE] at w
  refine ka F H O σ ρ _ S (WantG.seq .refl (.refl _) w fun ra ρ1 F1 H1 O1 va S1 _ t1 p1 r1 w1 => ?_)
  refine kb F1 H1 O1 σ ρ1 _ S1 (WantG.seq t1 p1 w1 fun rb ρ2 F2 H2 O2 vb S2 t12 t2 p2 r2 w2 => ?_)
  cases e : ((ra.cont ρ2).bind fun x => (rb.cont ρ2).bind fun y => opCmp o x y) with
  | none => rw [e] at w2; exact w2.elim
  | some q =>
    rw [e] at w2
    simp only [Option.bind_eq_some_iff] at e
    obtain ⟨dx, hx, dy, hy, hq⟩ := e
    refine ⟨F2, dx, dy, .val (.bool q), cont_ok S2 (r1.stp S1 t12) hx, cont_ok S2 r2 hy, by show (opCmp o dx dy).map _ = _; rw [hq]; rfl, fun v H' nr => ?_⟩
    cases nr with
    | same d =>
      cases d
      refine ⟨q, rfl, ?_⟩
      cases q with
      | false => exact ite_ff (w2 F2 H2 O2 _ S2 t2 p2 (.bl _))
      | true =>
        refine ite_tt ?_
        have w3 : WantE X.K xr W σ F H O ρ ((evE cx z ρ2).bind fun rc ρ => Out.lift ((rb.cont ρ).bind fun y => (rc.cont ρ).bind fun z => (opCmp p y z).map fun c => R.val (.bool c)) ρ) Q := w2
        refine kc F2 H2 O2 σ ρ2 _ S2 (WantG.seq t2 p2 w3 fun rc ρ3 F3 H3 O3 vc S3 t23 t3 p3 r3 w4 => ?_)
        obtain ⟨res, he, w5⟩ := w4.lift
        simp only [Option.bind_eq_some_iff] at he
        obtain ⟨d1, h1, d2, h2, hg⟩ := he
        exact ⟨F3, d1, d2, res, cont_ok S3 (r2.stp S2 t23) h1, cont_ok S3 r3 h2, hg, fun v H' nr => nr.done S3 t3 p3 w5⟩
theorem pd_chain {k : Nat} (hr : Room k X.A) {o p : Cp} {o' p' : CmpOp} {a b c : Expr} {x y z : Ex} {pos : Pos} (h : cpOk o o' = true) (h2 : cpOk p p' = true) (hm : lastMarks [o', p'] [b, c] = false)
    (ha : PD X xr W a (evE cx x)) (hb : PD X xr W b (evE cx y)) (hc : PD X xr W c (evE cx z)) : PD X xr W (.Compare a [o', p'] [b, c] pos) (evE cx (.chain o p x y z)) := by
  obtain ⟨ta, pa, ka⟩ := ha.run
  obtain ⟨tb, pb, kb⟩ := hb.run
  obtain ⟨tc, pc, kc⟩ := hc.run
  exact ⟨_, pe_chain (cmp_ok' hr h) (cmp_ok' hr h2) pa pb pc hm, chain_run ka kb kc⟩
/-- a test by a truth value -/
theorem tst_of {ev : Env → Out R} {Q : Bool → Hp → Prop} (hb : ∀ r ρ', ev ρ = .ok r ρ' → ∃ b, r = .val (.bool b)) (w : WantB K xr W σ F H O ρ ((ev ρ).bind truthR) Q) : WantE K xr W σ F H O ρ (ev ρ) (fun v H' => ∃ k, v = .bl k ∧ Q k H') := by
  cases e : ev ρ with
  | ok r ρ1 =>
    obtain ⟨b, rfl⟩ := hb r ρ1 e
    rw [e] at w
    intro F1 H1 O1 v S1 t1 p1 r1
    cases r1
    exact ⟨b, rfl, w F1 H1 O1 _ S1 t1 p1 rfl⟩
  | ex z ρ1 => rw [e] at w; exact w
  | no => rw [e] at w; exact w
theorem out_bind {α β : Type} {o : Out α} {f : α → Env → Out β} {b : β} {ρ2 : Env} (h : o.bind f = .ok b ρ2) : ∃ a ρ1, o = .ok a ρ1 ∧ f a ρ1 = .ok b ρ2 := by
  cases o with
  | ok a ρ1 => exact ⟨a, ρ1, rfl, h⟩
  | ex x ρ1 => cases h
  | no => cases h
theorem out_lift {α : Type} {o : Option α} {ρ1 ρ2 : Env} {a : α} (h : Out.lift o ρ1 = .ok a ρ2) : o = some a ∧ ρ1 = ρ2 := by
  cases o with
  | none => cases h
  | some b => cases h; exact ⟨rfl, rfl⟩
theorem pdt_chain {k : Nat} (hr : Room k X.A) {o p : Cp} {o' p' : CmpOp} {a b c : Expr} {x y z : Ex} {pos : Pos} (h : cpOk o o' = true) (h2 : cpOk p p' = true) (hm : lastMarks [o', p'] [b, c] = false)
    (ha : PD X xr W a (evE cx x)) (hb : PD X xr W b (evE cx y)) (hc : PD X xr W c (evE cx z)) : PDt X xr W (.Compare a [o', p'] [b, c] pos) (fun ρ => (evE cx (.chain o p x y z) ρ).bind truthR) := by
  obtain ⟨ta, pa, ka⟩ := ha.run
  obtain ⟨tb, pb, kb⟩ := hb.run
  obtain ⟨tc, pc, kc⟩ := hc.run
  refine ⟨_, pt_chain (cmp_ok' hr h) (cmp_ok' hr h2) pa pb pc hm, fun F H O σ ρ Q S w => chain_run ka kb kc F H O σ ρ _ S (tst_of (fun r ρ' e => ?_) w)⟩
  simp only [evE] at e
  obtain ⟨ra, ρ1, _, e⟩ := out_bind e
  obtain ⟨rb, ρ2, _, e⟩ := out_bind e
  obtain ⟨q, ρ3, _, e⟩ := out_bind e
  cases q with
  | false => cases e; exact ⟨false, rfl⟩
  | true =>
    obtain ⟨rc, ρ4, _, e⟩ := out_bind (show (Out.bind _ _) = _ from e)
    obtain ⟨e, _⟩ := out_lift e
    simp only [Option.bind_eq_some_iff, Option.map_eq_some_iff] at e
    obtain ⟨_, _, _, _, c, _, rfl⟩ := e
    exact ⟨c, rfl⟩
/-! ### built-ins -/
def biId : Bi → Option String
  | .len => some "len"
  | .abs => some "abs"
  | .any => some "any"
  | .all => some "all"
  | .max => some "max"
  | .min => some "min"
  | .sum => some "sum"
  | .sorted => some "sorted"
  | _ => none
def biTy : Bi → Option String
  | .int => some "int"
  | .bool => some "bool"
  | .str => some "str"
  | .list => some "list"
  | .tuple => some "tuple"
  | _ => none
/-- the rule of one argument -/
theorem bi1_b {k : Nat} (hr : Room k X.A) (hc : X.calm = true) {f : Bi} {id : String} (h : biId f = some id) : CallR X (.builtin id) (rB1 X.K (opB1 f)) := by
  cases f <;> first
    | (cases h; exact len_ok)
    | (cases h; exact abs_ok)
    | (cases h; exact any_ok hc)
    | (cases h; exact all_ok hc)
    | (cases h; exact max_ok hr)
    | (cases h; exact min_ok hr)
    | (cases h; exact sum_ok hr hc)
    | (cases h; exact sorted_ok hr hc)
    | (cases h; done)
theorem bi1_t {f : Bi} {id : String} (h : biTy f = some id) : CallR X (.type id) (rB1 X.K (opB1 f)) := by
  cases f <;> first
    | (cases h; exact int_ok1)
    | (cases h; exact bool_ok1)
    | (cases h; exact str_ok1)
    | (cases h; exact list_ok1)
    | (cases h; exact tuple_ok1)
    | (cases h; done)
theorem pd_b1 {f : Bi} {a e : Expr} {x : Ex} (mk : ∀ ta, PA X [a] ta → PE X e (tCB (rB1 X.K (opB1 f)) ta)) (hs : noStar a = true) (ha : PD X xr W a (evE cx x)) : PD X xr W e (evE cx (.bi1 f x)) := by
  obtain ⟨ta, pa, ka⟩ := ha.run
  refine ⟨_, mk _ (pa_cons pa pa_nil (star_one hs _ _)), fun F H O σ ρ Q S w => ?_⟩
  simp only [evE] at w
  refine ka F H O σ ρ _ S (WantG.seq .refl (.refl _) w fun ra ρ1 F1 H1 O1 va S1 _ t1 p1 r1 w => ?_)
  obtain ⟨res, he, w⟩ := w.lift
  simp only [Option.bind_eq_some_iff] at he
  obtain ⟨d, hd, hg⟩ := he
  exact ⟨F1, va, d, res, rfl, cont_ok S1 r1 hd, hg, fun v H' nr => nr.done S1 t1 p1 w⟩
theorem pd_bi1 {k : Nat} (hr : Room k X.A) (hc : X.calm = true) {f : Bi} {id : String} {n : Str} {a : Expr} {x : Ex} {p pos : Pos} (h : biId f = some id) (hg : Gl X n) (hm : X.mg n = none) (hv : bootBuiltins n = some (.builtin id)) (hn : n ≠ "__name__") (hdb : (n == ("__debug__" : Str)) = false)
    (hs : noStar a = true) (ha : PD X xr W a (evE cx x)) : PD X xr W (.Call (.Name n p) [a] [] pos) (evE cx (.bi1 f x)) :=
  pd_b1 (fun ta pa => pe_callB (bi1_b hr hc h) hg hm hv pa hn hdb (star_one hs _ _) rfl) hs ha
theorem pd_ty1 {f : Bi} {id : String} {n : Str} {a : Expr} {x : Ex} {p pos : Pos} (h : biTy f = some id) (hg : Gl X n) (hm : X.mg n = none) (hv : bootBuiltins n = some (.type id)) (hn : n ≠ "__name__") (hdb : (n == ("__debug__" : Str)) = false)
    (hs : noStar a = true) (ha : PD X xr W a (evE cx x)) : PD X xr W (.Call (.Name n p) [a] [] pos) (evE cx (.bi1 f x)) :=
  pd_b1 (fun ta pa => pe_callTy (bi1_t h) hg hm hv pa hn hdb (star_one hs _ _) rfl) hs ha
theorem bi2_b (hc : X.calm = true) {f : Bi} {id : String} (h : biId f = some id) (h2 : f = .max ∨ f = .min) : CallR X (.builtin id) (rB2 X.K (opB2 f)) := by
  rcases h2 with rfl | rfl
  · cases h; exact max2_ok hc
  · cases h; exact min2_ok hc
theorem pd_bi2 (hc : X.calm = true) {f : Bi} {id : String} {n : Str} {a b : Expr} {x y : Ex} {p pos : Pos} (h : biId f = some id) (h2 : f = .max ∨ f = .min) (hg : Gl X n) (hm : X.mg n = none) (hv : bootBuiltins n = some (.builtin id)) (hn : n ≠ "__name__") (hdb : (n == ("__debug__" : Str)) = false)
    (hs : noStar a = true) (hs2 : noStar b = true) (ha : PD X xr W a (evE cx x)) (hb : PD X xr W b (evE cx y)) : PD X xr W (.Call (.Name n p) [a, b] [] pos) (evE cx (.bi2 f x y)) := by
  obtain ⟨ta, pa, ka⟩ := ha.run
  obtain ⟨tb, pb, kb⟩ := hb.run
  refine ⟨_, pe_callB (bi2_b hc h h2) hg hm hv (pa_cons pa (pa_cons pb pa_nil (star_one hs2 _ _)) (star_one hs _ _)) hn hdb (star_one hs _ _) (star_no (by simp [hs2]) _ _), fun F H O σ ρ Q S w => ?_⟩
  simp only [evE] at w
  refine ka F H O σ ρ _ S (WantG.seq .refl (.refl _) w fun ra ρ1 F1 H1 O1 va S1 _ t1 p1 r1 w => ?_)
  refine kb F1 H1 O1 σ ρ1 _ S1 (WantG.seq t1 p1 w fun rb ρ2 F2 H2 O2 vb S2 t12 t2 p2 r2 w => ?_)
  obtain ⟨res, he, w⟩ := w.lift
  simp only [Option.bind_eq_some_iff] at he
  obtain ⟨d, hd, e, he, hg⟩ := he
  exact ⟨F2, va, vb, d, e, res, rfl, cont_ok S2 (r1.stp S1 t12) hd, cont_ok S2 r2 he, hg, fun v H' nr => nr.done S2 t2 p2 w⟩
/-! ### isinstance -/
theorem cls_all : ∀ ts : List Ty, Paired ClsV (ts.map fun t => V.ty (tyId t)) (ts.map fun t => Value.type (tyId t))
  | [] => .nil
  | t :: ts => .cons (.ty _) (cls_all ts)
/-- the name of a type, as written -/
def tyNm : Ty → Expr → Bool
  | t, .Name n _ => n == Str.ofString (tyId t)
  | _, _ => false
theorem tyNm_ok {t : Ty} {e : Expr} (h : tyNm t e = true) : ∃ p, e = .Name (Str.ofString (tyId t)) p := by
  cases e <;> first | (cases h; done) | skip
  rename_i n p
  have : n = Str.ofString (tyId t) := by simpa [tyNm] using h
  exact ⟨p, by rw [this]⟩
theorem ty_boot (t : Ty) : bootBuiltins (Str.ofString (tyId t)) = some (.type (tyId t)) := by cases t <;> decide +kernel
theorem ty_nm (t : Ty) : Str.ofString (tyId t) ≠ "__name__" := by cases t <;> decide +kernel
theorem ty_db (t : Ty) : (Str.ofString (tyId t) == ("__debug__" : Str)) = false := by cases t <;> decide +kernel
theorem pe_tyn {t : Ty} {p : Pos} (hg : Gl X (Str.ofString (tyId t))) (hm : X.mg (Str.ofString (tyId t)) = none) : PE X (.Name (Str.ofString (tyId t)) p) (tC (.ty (tyId t))) :=
  pe_bltn hg hm (ty_boot t) rfl (ty_nm t) (ty_db t)
theorem isi_boot : bootBuiltins "isinstance" = some (.builtin "isinstance") := by decide +kernel
theorem pd_isa1 {a c : Expr} {x : Ex} {t : Ty} {p pos : Pos} (hg : Gl X "isinstance") (hm : X.mg "isinstance" = none) (hg2 : Gl X (Str.ofString (tyId t))) (hm2 : X.mg (Str.ofString (tyId t)) = none) (ht : tyNm t c = true)
    (hs : noStar a = true) (ha : PD X xr W a (evE cx x)) : PD X xr W (.Call (.Name "isinstance" p) [a, c] [] pos) (evE cx (.isa x [t] false)) := by
  obtain ⟨q, rfl⟩ := tyNm_ok ht
  obtain ⟨ta, pa, ka⟩ := ha.run
  refine ⟨_, pe_callB call_isi hg hm isi_boot (pa_cons pa (pa_cons (pe_tyn hg2 hm2) pa_nil (star_one rfl _ _)) (star_one hs _ _)) (by decide +kernel) (by decide +kernel) (star_one hs _ _) (star_no rfl _ _), fun F H O σ ρ Q S w => ?_⟩
  simp only [evE] at w
  refine ka F H O σ ρ _ S (WantG.seq .refl (.refl _) w fun ra ρ1 F1 H1 O1 va S1 _ t1 p1 r1 w => ?_)
  obtain ⟨res, he, w⟩ := w.lift
  simp only [Option.map_eq_some_iff] at he
  obtain ⟨d, hd, rfl⟩ := he
  refine ⟨va, _, _, _, _, rfl, .ty _, (cont_ok S1 r1 hd).ty, kit_tab d t, ?_⟩
  refine w F1 H1 O1 _ S1 t1 p1 ?_
  simp only [List.any_cons, List.any_nil, Bool.or_false]
  exact .bl _
def tyNms : List Ty → List Expr → Bool
  | [], [] => true
  | t :: ts, e :: es => tyNm t e && tyNms ts es
  | _, _ => false
theorem pa_tys : ∀ {ts : List Ty} {es : List Expr}, tyNms ts es = true → (∀ t ∈ ts, Gl X (Str.ofString (tyId t)) ∧ X.mg (Str.ofString (tyId t)) = none) →
    ∃ t, PA X es t ∧ ∀ σ H Q, Q (ts.map fun t => V.ty (tyId t)) H → t σ H Q
  | [], [], _, _ => ⟨_, pa_nil, fun _ _ _ q => q⟩
  | t :: ts, e :: es, h, g => by
    have h' : tyNm t e = true ∧ tyNms ts es = true := by simpa [tyNms] using h
    obtain ⟨q, rfl⟩ := tyNm_ok h'.1
    obtain ⟨tt, pt, kt⟩ := pa_tys h'.2 fun t' m => g t' (List.mem_cons_of_mem _ m)
    obtain ⟨g1, g2⟩ := g t List.mem_cons_self
    exact ⟨_, pa_cons (pe_tyn g1 g2) pt (star_one rfl _ _), fun σ H Q q => kt σ H _ q⟩
  | [], _ :: _, h, _ => by cases h
  | _ :: _, [], h, _ => by cases h
theorem pd_isa2 {a : Expr} {es : List Expr} {x : Ex} {ts : List Ty} {j : Nat} {p p2 pos : Pos} (hg : Gl X "isinstance") (hm : X.mg "isinstance" = none) (hg2 : ∀ t ∈ ts, Gl X (Str.ofString (tyId t)) ∧ X.mg (Str.ofString (tyId t)) = none) (ht : tyNms ts es = true) (hl : ts.length ≤ 6)
    (hs : noStar a = true) (ha : PD X xr W a (evE cx x)) : PD X xr W (.Call (.Name "isinstance" p) [a, .Tuple es j p2] [] pos) (evE cx (.isa x ts true)) := by
  obtain ⟨ta, pa, ka⟩ := ha.run
  obtain ⟨tt, pt, kt⟩ := pa_tys (X := X) ht hg2
  refine ⟨_, pe_callB call_isiT hg hm isi_boot (pa_cons pa (pa_cons (pe_tup pt) pa_nil (star_one rfl _ _)) (star_one hs _ _)) (by decide +kernel) (by decide +kernel) (star_one hs _ _) (star_no rfl _ _), fun F H O σ ρ Q S w => ?_⟩
  simp only [evE] at w
  refine ka F H O σ ρ _ S (WantG.seq .refl (.refl _) w fun ra ρ1 F1 H1 O1 va S1 _ t1 p1 r1 w => ?_)
  obtain ⟨res, he, w⟩ := w.lift
  simp only [Option.map_eq_some_iff] at he
  obtain ⟨d, hd, rfl⟩ := he
  refine kt σ H1 _ ⟨by rw [List.length_map, ← lim_eq]; simp only [Lim]; omega, fun q hq => ?_⟩
  have S2 : StI X.K F1 (upd H1 q (.tup (ts.map fun t => V.ty (tyId t)))) O1 σ ρ1 := S1.laid hq
  have t2 := stp_laid (F := F1) (O := O1) (o := HO.tup (ts.map fun t => V.ty (tyId t))) hq
  refine ⟨va, q, _, _, _, _, rfl, upd_same, cls_all ts, (cont_ok S2 (r1.stp S1 t2) hd).ty, kit_any d ts, ?_⟩
  exact w F1 _ O1 _ S2 (t1.trans t2) p1 (.bl _)
end
end MI
namespace MI
open PySem PySem.Spec PyProof.Rows L2
variable {K : PySem.W.Frag} {F F' : Fz} {H H' : Hp} {O O' : Fz} {σ : L2.St} {ρ ρ' : Env}
/-! ### an own list is changed in place -/
theorem ext_own {a : Addr} {o : HO} (S : StI K F H O σ ρ) (oa : O a) : Ext F H F (upd H a o) := fun b f => ⟨f, upd_ne fun e => (S.odom a oa).2 (e ▸ f)⟩
theorem stp_own {a : Addr} {o : HO} (oa : O a) : Stp F H O F (upd H a o) O where
  fz := fun _ h => h
  fz' := fun _ h => .inl h
  ow := fun _ h => .inl h
  hp := fun b _ n => upd_ne fun e => n (e ▸ oa)
  all := fun b h => by
    by_cases e : b = a
    · subst e; rw [upd_same]; simp
    · rw [upd_ne e]; exact h
theorem StI.chg {i : Nat} {m m' : M} {a : Addr} {o : HO} (S : StI K F H O σ ρ) (e : ρ.get i = some m) (w : m.isOwn = true) (hv : σ[i]? = some (some (.ref a))) (hm : RepM K F (upd H a o) O (.ref a) m') (w' : m'.isOwn = true) :
    StI K F (upd H a o) O σ (ρ.set i (some m')) := by
  have oa : O a := by
    obtain ⟨v, h1, h2⟩ := S.var i m e
    obtain ⟨b, h3, h4⟩ := h2.own w
    rw [hv] at h1
    cases h1
    cases h3
    exact h4
  have x := ext_own (o := o) S oa
  have tt := stp_own (F := F) (H := H) (o := o) oa
  refine ⟨by rw [List.length_set]; exact S.len, fun j mj ej => ?_, fun b f => tt.all b (S.dom b f), fun b q => ⟨tt.all b (S.odom b q).1, (S.odom b q).2⟩, fun j k b m1 m2 ne e1 e2 o1 o2 h1 h2 => ?_⟩
  · rcases get_set_cases ej with ⟨rfl, q⟩ | ⟨ne, q⟩
    · cases q
      exact ⟨_, hv, hm⟩
    · obtain ⟨v, h1, h2⟩ := S.var j mj q
      refine ⟨v, h1, ?_⟩
      have apart : ∀ b, v = .ref b → mj.isOwn = true → b ≠ a := fun b eb ob eba => by
        subst eba eb
        exact S.sep i j b m mj ne e q w ob hv h1
      cases mj with
      | sh d => exact Dat.ext x h2
      | ol p xs =>
        obtain ⟨b, vs, eb, ob, hb, hd⟩ := h2
        exact ⟨b, vs, eb, ob, (upd_ne (apart b eb rfl)).trans hb, Dats.ext x hd⟩
      | od p xs =>
        obtain ⟨b, vs, eb, ob, hb, hd, hd2⟩ := h2
        exact ⟨b, vs, eb, ob, (upd_ne (apart b eb rfl)).trans hb, Dats.ext x hd, Dats.ext x hd2⟩
      | ob C fs => exact RepOb.ext x h2
      | sc ns =>
        obtain ⟨b, eb, h⟩ := h2
        rcases h with ⟨f, r⟩ | r
        · exact ⟨b, eb, .inl ⟨f, Rd.ext (x b f).2 r⟩⟩
        · exact ⟨b, eb, .inr r⟩
  · have k1 : ∃ m1', ρ.get j = some m1' ∧ m1'.isOwn = true := by
      rcases get_set_cases e1 with ⟨rfl, q⟩ | ⟨n1, q1⟩
      · exact ⟨m, e, w⟩
      · exact ⟨m1, q1, o1⟩
    have k2 : ∃ m2', ρ.get k = some m2' ∧ m2'.isOwn = true := by
      rcases get_set_cases e2 with ⟨rfl, q⟩ | ⟨n1, q1⟩
      · exact ⟨m, e, w⟩
      · exact ⟨m2, q1, o2⟩
    obtain ⟨m1', c1, d1⟩ := k1
    obtain ⟨m2', c2, d2⟩ := k2
    exact S.sep j k b m1' m2' ne c1 c2 d1 d2 h1 h2
theorem StI.ol {i : Nat} {p : Bool} {xs : List D} (S : StI K F H O σ ρ) (e : ρ.get i = some (.ol p xs)) : ∃ a vs, σ[i]? = some (some (.ref a)) ∧ O a ∧ H a = some (.lst vs) ∧ Dats K F H vs xs := by
  obtain ⟨v, h1, a, vs, rfl, h2, h3, h4⟩ := S.var i _ e
  exact ⟨a, vs, h1, h2, h3, h4⟩
theorem StI.chgL {i : Nat} {p : Bool} {xs ys : List D} {a : Addr} {ws : List V} (S : StI K F H O σ ρ) (e : ρ.get i = some (.ol p xs)) (hv : σ[i]? = some (some (.ref a))) (oa : O a) (hd : Dats K F H ws ys) :
    StI K F (upd H a (.lst ws)) O σ (ρ.set i (some (.ol p ys))) := S.chg e rfl hv ⟨a, ws, rfl, oa, upd_same, Dats.ext (ext_own S oa) hd⟩ rfl
theorem pin_chg {i : Nat} {p : Bool} {xs ys : List D} (e : ρ.get i = some (.ol p xs)) : Pin ρ (ρ.set i (some (.ol p ys))) := by
  refine ⟨List.length_set, fun j m ej pj => ?_⟩
  by_cases q : i = j
  · subst q
    rw [e] at ej
    cases ej
    exact ⟨.ol p ys, get_set_self (get_lt e), pj⟩
  · exact ⟨m, (get_set_ne q).trans ej, pj⟩
/-- beside everything -/
theorem StI.side {a : Addr} {o : HO} (S : StI K F H O σ ρ) (nf : ¬ F a) (no : ¬ O a) : StI K F (upd H a o) O σ ρ := by
  have x : Ext F H F (upd H a o) := fun b f => ⟨f, upd_ne fun e => nf (e ▸ f)⟩
  have kp : ∀ b, H b ≠ none → upd H a o b ≠ none := fun b h => by
    by_cases e : b = a
    · subst e; rw [upd_same]; simp
    · rw [upd_ne e]; exact h
  refine ⟨S.len, fun j mj ej => ?_, fun b f => kp b (S.dom b f), fun b q => ⟨kp b (S.odom b q).1, (S.odom b q).2⟩, S.sep⟩
  obtain ⟨v, h1, h2⟩ := S.var j mj ej
  refine ⟨v, h1, ?_⟩
  cases mj with
  | sh d => exact Dat.ext x h2
  | ol p xs =>
    obtain ⟨b, vs, eb, ob, hb, hd⟩ := h2
    exact ⟨b, vs, eb, ob, (upd_ne fun (e : b = a) => no (e ▸ ob)).trans hb, Dats.ext x hd⟩
  | od p xs =>
    obtain ⟨b, vs, eb, ob, hb, hd, hd2⟩ := h2
    exact ⟨b, vs, eb, ob, (upd_ne fun (e : b = a) => no (e ▸ ob)).trans hb, Dats.ext x hd, Dats.ext x hd2⟩
  | ob C fs => exact RepOb.ext x h2
  | sc ns =>
    obtain ⟨b, eb, h⟩ := h2
    rcases h with ⟨f, r⟩ | r
    · exact ⟨b, eb, .inl ⟨f, Rd.ext (x b f).2 r⟩⟩
    · exact ⟨b, eb, .inr r⟩
section
variable {X : Cx} {xr : XRep} {W : WX} {cx : Cxt}
/-! ### o.append(..) and its like -/
def muId : Mu → String
  | .append => "list.append"
  | .extend => "list.extend"
  | .pop => "list.pop"
  | .popAt => "list.pop"
  | .reverse => "list.reverse"
  | .insert => "list.insert"
  | .remove => "list.remove"
def muNm : Mu → Str
  | .append => "append"
  | .extend => "extend"
  | .pop => "pop"
  | .popAt => "pop"
  | .reverse => "reverse"
  | .insert => "insert"
  | .remove => "remove"
theorem mu_slot (m : Mu) : Slot "list" (muNm m) (muId m) := by
  cases m with
  | append => exact PySem.F.slot_list_append
  | extend => exact PySem.F.slot_list_extend
  | pop => exact PySem.F.slot_list_pop
  | popAt => exact PySem.F.slot_list_pop
  | reverse => exact PySem.F.slot_list_reverse
  | insert => exact PySem.F.slot_list_insert
  | remove => exact PySem.F.slot_list_remove
theorem mu_ty (m : Mu) : typeOf (.builtin (muId m)) = pure (.type "method_descriptor") := by
  cases m with
  | append => exact PySem.F.type_list_append
  | extend => exact PySem.F.type_list_extend
  | pop => exact PySem.F.type_list_pop
  | popAt => exact PySem.F.type_list_pop
  | reverse => exact PySem.F.type_list_reverse
  | insert => exact PySem.F.type_list_insert
  | remove => exact PySem.F.type_list_remove
/-- a list is changed -/
def rMu (K : PySem.W.Frag) (m : Mu) : V → List V → Hp → VK → Prop := fun x vs H Q => ∃ F a ws ds xs d ys, x = .ref a ∧ H a = some (.lst ws) ∧ Dats K F H ws xs ∧ Dats K F H vs ds ∧ opMu m xs ds = some (d, ys) ∧
  ∀ v zs, Dat K F H v d → Dats K F H zs ys → Q v (upd H a (.lst zs))
theorem ix_seq {n : Nat} {i : Int} {k : Nat} (h : ixOf n i = some k) : seqIndex? i n = some k := by
  unfold ixOf at h
  unfold seqIndex?
  split at h
  · split at h
    · rename_i h1 h2
      have e : ¬ i < 0 := by omega
      cases h
      simp [e, h1, h2]
    · cases h
  · split at h
    · rename_i h1 h2
      have e : i < 0 := by omega
      cases h
      have e1 : 0 ≤ i + (n : Int) := by omega
      have e2 : i + (n : Int) < n := by omega
      simp [e, e1, e2]
    · cases h
theorem mu_ok (m : Mu) : MtR X (muId m) (rMu X.K m) := by
  intro pins s σ H x vs v us Q I rx rv h
  obtain ⟨F, a, ws, ds, xs, d, ys, rfl, ha, dw, dv, hg, q⟩ := h
  have hl := dw.length
  cases m with
  | append =>
    cases dv with
    | nil => cases hg
    | cons h1 h2 => cases h2 with
      | cons _ _ => cases hg
      | nil =>
        obtain ⟨g1, g2⟩ := gd_some hg
        cases g2
        exact mt_append pins s σ H _ _ v us Q I rx rv ⟨a, ws, _, rfl, rfl, ha, by rw [hl, ← lim_eq]; simpa using g1, q _ _ .non (dw.append (.one h1))⟩
  | extend =>
    cases dv with
    | nil => cases hg
    | cons h1 h2 => cases h2 with
      | cons _ _ => rename_i d0 _ _ _ _ _ _; cases d0 <;> cases hg
      | nil =>
        rename_i v0 d0
        cases d0 <;> try (cases hg; done)
        obtain ⟨g1, g2⟩ := gd_some hg
        cases g2
        obtain ⟨b, zs, rfl, hb, dz⟩ := (Dat1.sh h1).lst
        exact mt_extend pins s σ H _ _ v us Q I rx rv ⟨a, b, ws, zs, rfl, rfl, ha, hb, by rw [hl, dz.length, ← lim_eq]; simpa using g1, q _ _ .non (dw.append dz)⟩
  | pop =>
    cases dv with
    | cons h1 h2 => cases hg
    | nil =>
      change (xs.getLast?.map fun y => (y, xs.dropLast)) = some (d, ys) at hg
      simp only [Option.map_eq_some_iff] at hg
      obtain ⟨y, hy, e⟩ := hg
      cases e
      rw [List.getLast?_eq_getElem?] at hy
      obtain ⟨w, hw, dw1⟩ := dw.get hy
      exact mt_pop pins s σ H _ _ v us Q I rx rv ⟨a, ws, w, rfl, rfl, ha, by rw [hl]; exact hw, q _ _ dw1 dw.dropLast⟩
  | popAt =>
    cases dv with
    | nil => cases hg
    | cons h1 h2 => cases h2 with
      | cons _ _ => rename_i d0 _ _ _ _ _ _; cases d0 <;> cases hg
      | nil =>
        rename_i v0 d0
        cases d0 <;> try (cases hg; done)
        rename_i i
        cases (Dat1.sh h1).int
        change ((gd (decide (i.natAbs < 2 ^ 62)) ()).bind fun _ => (ixOf xs.length i).bind fun k => (xs[k]?).map fun y => (y, xs.eraseIdx k)) = some (d, ys) at hg
        simp only [Option.bind_eq_some_iff, Option.map_eq_some_iff] at hg
        obtain ⟨_, g1, k, hk, y, hy, e⟩ := hg
        cases e
        obtain ⟨g1, _⟩ := gd_some g1
        have g1 : i.natAbs < 2 ^ 62 := by simpa using g1
        obtain ⟨w, hw, dw1⟩ := dw.get hy
        exact mt_popAt pins s σ H _ _ v us Q I rx rv ⟨a, ws, i, k, w, rfl, rfl, ha, by omega, by omega, by rw [hl]; exact ix_seq hk, hw, q _ _ dw1 (dw.eraseIdx k)⟩
  | insert => cases hg
  | remove => cases hg
  | reverse =>
    cases dv with
    | cons h1 h2 => cases hg
    | nil =>
      cases hg
      exact mt_reverse pins s σ H _ _ v us Q I rx rv ⟨a, ws, rfl, rfl, ha, q _ _ .non dw.reverse⟩
/-- what is done with an own list by its method -/
theorem mu_run {m : Mu} {i : Nat} {xs : List Ex} {t : TA} {te : TE} (kt : ∀ F H O σ ρ Q, StI X.K F H O σ ρ → WantDs X.K xr W σ F H O ρ (evDs cx xs ρ) Q → t σ H Q)
    (ht : ∀ σ H Q, (∃ a, σ[i]? = some (some (.ref a)) ∧ tyV X.K "list" (.ref a) H ∧ t σ H fun vs H2 => rMu X.K m (.ref a) vs H2 Q) → te σ H Q) : RunE X xr W te (evE cx (.mu m i xs)) := by
  intro F H O σ ρ Q S w
  simp only [evE] at w
  split at w
  · rename_i p ys e
    obtain ⟨a, vs, ha, oa, hl, dl⟩ := S.ol e
    refine ht σ H Q ⟨a, ha, .inl ⟨rfl, vs, SqL.of hl⟩, ?_⟩
    refine kt F H O σ ρ _ S (WantG.seq .refl (.refl _) w fun ds ρ1 F1 H1 O1 ws S1 _ t1 p1 r1 w => ?_)
    split at w
    · rename_i p1' zs e1
      obtain ⟨b, us, hb, ob, hu, du⟩ := S1.ol e1
      have : b = a := by rw [ha] at hb; cases hb; rfl
      subst this
      split at w
      · rename_i d ys2 hg
        refine ⟨F1, b, us, ds, zs, d, ys2, rfl, hu, du, r1, hg, fun v zs' hv hz => ?_⟩
        have S2 := S1.chgL e1 hb ob hz
        exact w F1 _ O1 v S2 (t1.trans (stp_own ob)) (p1.trans (pin_chg e1)) (Dat.ext (ext_own S1 ob) hv)
      · exact w.elim
    · exact w.elim
  · exact w.elim
theorem pd_mu1 {m : Mu} {i : Nat} {y : Str} {a : Expr} {x : Ex} {p apos cpos : Pos} (hN : X.N[i]? = some y) (hv : Vis X.env.scope y) (hd : (y == ("__debug__" : Str)) = false) (hcd : (y == ("__classdict__" : Str)) = false)
    (hs : noStar a = true) (hl : (apos.endLine == cpos.line) = true) (ha : PD X xr W a (evE cx x)) : PD X xr W (.Call (.Attribute (.Name y p) (muNm m) apos) [a] [] cpos) (evE cx (.mu m i [x])) := by
  obtain ⟨t, pt, kt⟩ := (pds_cons (star_one hs _ _) ha (pds_nil (cx := cx))).run
  refine ⟨_, pe_bm PySem.F.plainAttrs_list (mu_slot m) (mu_ty m) (mu_ok m) (pe_var hN hv hd hcd) pt rfl (by rw [star_one hs]; rfl) hl (star_one hs _ _) rfl, ?_⟩
  exact mu_run kt fun σ H Q ⟨a, h1, h2, h3⟩ => ⟨_, h1, h2, h3⟩
theorem pd_mu0 {m : Mu} {i : Nat} {y : Str} {p apos cpos : Pos} (hN : X.N[i]? = some y) (hv : Vis X.env.scope y) (hd : (y == ("__debug__" : Str)) = false) (hcd : (y == ("__classdict__" : Str)) = false)
    (hl : (apos.endLine == cpos.line) = true) : PD X xr W (.Call (.Attribute (.Name y p) (muNm m) apos) [] [] cpos) (evE cx (.mu m i [])) := by
  obtain ⟨t, pt, kt⟩ := (pds_nil (X := X) (xr := xr) (W := W) (cx := cx)).run
  refine ⟨_, pe_bm0 PySem.F.plainAttrs_list (mu_slot m) (mu_ty m) (mu_ok m) (pe_var hN hv hd hcd) rfl hl, ?_⟩
  refine mu_run (t := tNil) (fun F H O σ ρ Q S w => ?_) fun σ H Q ⟨a, h1, h2, h3⟩ => ⟨_, h1, h2, h3⟩
  simp only [evDs] at w
  exact w F H O _ S .refl (.refl _) .nil
end
end MI
namespace MI
open PySem PySem.Spec PyProof.Rows L2
variable {K : PySem.W.Frag} {F F' : Fz} {H H' : Hp} {O O' : Fz} {σ : L2.St} {ρ ρ' : Env}
/-! ### the weakest readings -/
def canE (K : PySem.W.Frag) (xr : XRep) (W : WX) (ev : Env → Out R) : TE := fun σ H Q => ∃ F O ρ, StI K F H O σ ρ ∧ WantE K xr W σ F H O ρ (ev ρ) Q
def canT (K : PySem.W.Frag) (xr : XRep) (W : WX) (ev : Env → Out Bool) : TT := fun σ H Q => ∃ F O ρ, StI K F H O σ ρ ∧ WantB K xr W σ F H O ρ (ev ρ) Q
theorem PD.can {X : Cx} {xr : XRep} {W : WX} {e : Expr} {ev : Env → Out R} (h : PD X xr W e ev) : PE X e (canE X.K xr W ev) := by
  obtain ⟨t, p, k⟩ := h.run
  exact ⟨fun pins s σ H Q I ⟨F, O, ρ, S, w⟩ => p.run pins s σ H Q I (k F H O σ ρ Q S w)⟩
theorem PDt.can {X : Cx} {xr : XRep} {W : WX} {e : Expr} {ev : Env → Out Bool} (h : PDt X xr W e ev) : PT X e (canT X.K xr W ev) := by
  obtain ⟨t, p, k⟩ := h.run
  exact ⟨fun pins s σ H Q I ⟨F, O, ρ, S, w⟩ => p.run pins s σ H Q I (k F H O σ ρ Q S w)⟩
/-! ### what is walked -/
structure WalkD (K : PySem.W.Frag) (F0 : Fz) (H0 : Hp) (J : L2.It) (ds : List D) : Prop where
  go : ∀ i F H, Ext F0 H0 F H → i < ds.length → J.go i H
  stop : ∀ F H, Ext F0 H0 F H → J.stop ds.length H
  yld : ∀ i d F H x H', Ext F0 H0 F H → ds[i]? = some d → J.yld i H x H' → NewR K F H x H' (.val d)
structure PDi (X : Cx) (xr : XRep) (W : WX) (tg it : Expr) (ev : Env → Out (List D)) : Prop where
  run : ∃ wi : TI, PI X tg it wi ∧ ∀ F H O σ ρ R, StI X.K F H O σ ρ → WantG X.K xr W (fun F' H' O' J ds => WalkD X.K F' H' J ds) σ F H O ρ (ev ρ) R → wi σ H R
/-- at a shared list, tuple -/
inductive SeqAt (K : PySem.W.Frag) (F : Fz) (H : Hp) : V → List D → Prop
  | l {a : Addr} {vs : List V} {ds : List D} : F a → H a = some (.lst vs) → Dats K F H vs ds → SeqAt K F H (.ref a) ds
  | t {a : Addr} {vs : List V} {ds : List D} : (F a ∧ H a = some (.tup vs) ∨ KTup K a vs) → Dats K F H vs ds → SeqAt K F H (.ref a) ds
theorem seq_at {v : V} {d : D} {ds : List D} (h : Dat K F H v d) (e : seqOf d = some ds) : SeqAt K F H v ds := by
  cases h <;> (cases e) <;> first
    | exact .l (by assumption) (by assumption) (by assumption)
    | exact .t (.inl ⟨by assumption, by assumption⟩) (by assumption)
    | exact .t (.inr (by assumption)) (by assumption)
theorem walkd_list {a : Addr} {vs : List V} {ds : List D} (f : F a) (h : H a = some (.lst vs)) (d : Dats K F H vs ds) : WalkD K F H (Itl K a) ds where
  go := fun i F1 H1 x hi => by
    have e : H1 a = some (.lst vs) := (x a f).2.trans h
    have hi' : i < vs.length := by rw [d.length]; exact hi
    exact ⟨vs, vs[i], SqL.of e, by simp [hi']⟩
  stop := fun F1 H1 x => ⟨vs, SqL.of ((x a f).2.trans h), by rw [d.length]; exact Nat.le_refl _⟩
  yld := fun i e F1 H1 y H2 x he hy => by
    obtain ⟨q, hy⟩ := hy
    subst q
    obtain ⟨w, hw, dw⟩ := d.get he
    have := (hy vs (SqL.of ((x a f).2.trans h))).symm.trans hw
    cases this
    exact .same (Dat.ext x dw)
theorem sqT_ext {a : Addr} {vs : List V} (x : Ext F H F' H') (h : F a ∧ H a = some (.tup vs) ∨ KTup K a vs) : SqT K H' a vs := by
  rcases h with ⟨f, h⟩ | h
  · exact SqT.of ((x a f).2.trans h)
  · exact .inr h
theorem walkd_tup {a : Addr} {vs : List V} {ds : List D} (h : F a ∧ H a = some (.tup vs) ∨ KTup K a vs) (d : Dats K F H vs ds) : WalkD K F H (Itt K a) ds where
  go := fun i F1 H1 x hi => by
    have hi' : i < vs.length := by rw [d.length]; exact hi
    exact ⟨vs, vs[i], sqT_ext x h, by simp [hi']⟩
  stop := fun F1 H1 x => ⟨vs, sqT_ext x h, by rw [d.length]; exact Nat.le_refl _⟩
  yld := fun i e F1 H1 y H2 x he hy => by
    obtain ⟨q, hy⟩ := hy
    subst q
    obtain ⟨w, hw, dw⟩ := d.get he
    have := (hy vs (sqT_ext x h)).symm.trans hw
    cases this
    exact .same (Dat.ext x dw)
theorem rngD_get {lo c : Int} {n i : Nat} {d : D} (h : (rngD lo n c)[i]? = some d) : i < n ∧ d = .int (lo + (i : Int) * c) := by
  unfold rngD at h
  rw [List.getElem?_map] at h
  by_cases hi : i < n
  · rw [List.getElem?_range hi] at h
    cases h
    exact ⟨hi, rfl⟩
  · rw [List.getElem?_eq_none (by simpa using hi)] at h
    cases h
theorem rngD_len {lo c : Int} {n : Nat} : (rngD lo n c).length = n := by simp [rngD]
theorem walkd_rng {lo : Int} {n : Nat} : WalkD K F H (Itr lo n) (rngD lo n 1) where
  go := fun i F1 H1 x hi => by rw [rngD_len] at hi; exact hi
  stop := fun F1 H1 x => by rw [rngD_len]; exact Nat.le_refl _
  yld := fun i e F1 H1 y H2 x he hy => by
    obtain ⟨q, hy⟩ := hy
    obtain ⟨_, rfl⟩ := rngD_get he
    subst q hy
    rw [Int.mul_one]
    exact .same (.int _)
theorem walkd_rngC {lo c : Int} {n : Nat} : WalkD K F H (Itc lo c n) (rngD lo n c) where
  go := fun i F1 H1 x hi => by rw [rngD_len] at hi; exact hi
  stop := fun F1 H1 x => by rw [rngD_len]; exact Nat.le_refl _
  yld := fun i e F1 H1 y H2 x he hy => by
    obtain ⟨q, hy⟩ := hy
    obtain ⟨_, rfl⟩ := rngD_get he
    subst q hy
    exact .same (.int _)
theorem enumD_len : ∀ (xs : List D) (k : Nat), (enumD k xs).length = xs.length
  | [], _ => rfl
  | x :: xs, k => by simp [enumD, enumD_len xs (k + 1)]
theorem enumD_get : ∀ {xs : List D} {k i : Nat} {d : D}, (enumD k xs)[i]? = some d → ∃ e, xs[i]? = some e ∧ d = .tuple [.int ((k + i : Nat) : Int), e]
  | [], _, _, _, h => by simp [enumD] at h
  | x :: xs, k, 0, d, h => by
    simp [enumD] at h
    exact ⟨x, rfl, h.symm⟩
  | x :: xs, k, i + 1, d, h => by
    obtain ⟨e, h1, h2⟩ := enumD_get (xs := xs) (k := k + 1) (i := i) (by simpa [enumD] using h)
    exact ⟨e, by simpa using h1, by rw [h2, Nat.add_right_comm, Nat.add_assoc k i 1]⟩
theorem walkd_enum {a : Addr} {vs : List V} {ds : List D} (f : F a) (h : H a = some (.lst vs)) (d : Dats K F H vs ds) : WalkD K F H (Ite K a) (enumD 0 ds) where
  go := fun i F1 H1 x hi => by
    have e : H1 a = some (.lst vs) := (x a f).2.trans h
    have hi' : i < vs.length := by rw [d.length]; rw [enumD_len] at hi; exact hi
    exact ⟨vs, vs[i], SqL.of e, by simp [hi']⟩
  stop := fun F1 H1 x => ⟨vs, SqL.of ((x a f).2.trans h), by rw [d.length, enumD_len]; exact Nat.le_refl _⟩
  yld := fun i e F1 H1 y H2 x he hy => by
    obtain ⟨e1, h1, rfl⟩ := enumD_get he
    obtain ⟨T, z, rfl, hT, rfl, hz⟩ := hy
    obtain ⟨w, hw, dw⟩ := d.get h1
    have := (hz vs (SqL.of ((x a f).2.trans h))).symm.trans hw
    cases this
    rw [Nat.zero_add]
    exact .tup hT (.cons (.int _) (.one (Dat.ext x dw)))
theorem zipD_get : ∀ {xs ys : List D} {i : Nat} {d : D}, (zipD xs ys)[i]? = some d → ∃ a b, xs[i]? = some a ∧ ys[i]? = some b ∧ d = .tuple [a, b]
  | [], _, _, _, h => by simp [zipD] at h
  | x :: xs, [], _, _, h => by simp [zipD] at h
  | x :: xs, y :: ys, 0, d, h => by
    simp [zipD] at h
    exact ⟨x, y, rfl, rfl, h.symm⟩
  | x :: xs, y :: ys, i + 1, d, h => by
    obtain ⟨a, b, h1, h2, h3⟩ := zipD_get (xs := xs) (ys := ys) (i := i) (by simpa [zipD] using h)
    exact ⟨a, b, by simpa using h1, by simpa using h2, h3⟩
theorem zipD_len : ∀ (xs ys : List D), (zipD xs ys).length = min xs.length ys.length
  | [], _ => by simp [zipD]
  | x :: xs, [] => by simp [zipD]
  | x :: xs, y :: ys => by simp [zipD, zipD_len xs ys]
theorem walkd_zip {a b : Addr} {vs ws : List V} {ds es : List D} (f : F a) (h : H a = some (.lst vs)) (d : Dats K F H vs ds) (f2 : F b) (h2 : H b = some (.lst ws)) (d2 : Dats K F H ws es) : WalkD K F H (Itz K a b) (zipD ds es) where
  go := fun i F1 H1 x hi => by
    rw [zipD_len] at hi
    have l1 := d.length
    have l2 := d2.length
    have hi1 : i < vs.length := by omega
    have hi2 : i < ws.length := by omega
    exact ⟨vs, ws, vs[i], ws[i], SqL.of ((x a f).2.trans h), SqL.of ((x b f2).2.trans h2), by simp [hi1], by simp [hi2]⟩
  stop := fun F1 H1 x => ⟨vs, ws, SqL.of ((x a f).2.trans h), SqL.of ((x b f2).2.trans h2), by
    have l1 := d.length
    have l2 := d2.length
    rw [zipD_len]
    omega⟩
  yld := fun i e F1 H1 y H2 x he hy => by
    obtain ⟨e1, e2, g1, g2, rfl⟩ := zipD_get he
    obtain ⟨T, z1, z2, rfl, hT, rfl, k1, k2⟩ := hy
    obtain ⟨w1, hw1, dw1⟩ := d.get g1
    obtain ⟨w2, hw2, dw2⟩ := d2.get g2
    have q1 := (k1 vs (SqL.of ((x a f).2.trans h))).symm.trans hw1
    have q2 := (k2 ws (SqL.of ((x b f2).2.trans h2))).symm.trans hw2
    cases q1
    cases q2
    exact .tup hT (.cons (Dat.ext x dw1) (.one (Dat.ext x dw2)))
theorem walkd_zipT {a b : Addr} {vs ws : List V} {ds es : List D} (h : F a ∧ H a = some (.tup vs) ∨ KTup K a vs) (d : Dats K F H vs ds) (h2 : F b ∧ H b = some (.tup ws) ∨ KTup K b ws) (d2 : Dats K F H ws es) : WalkD K F H (RZ.ItzT K a b) (zipD ds es) where
  go := fun i F1 H1 x hi => by
    rw [zipD_len] at hi
    have l1 := d.length
    have l2 := d2.length
    have hi1 : i < vs.length := by omega
    have hi2 : i < ws.length := by omega
    exact ⟨vs, ws, vs[i], ws[i], sqT_ext x h, sqT_ext x h2, by simp [hi1], by simp [hi2]⟩
  stop := fun F1 H1 x => ⟨vs, ws, sqT_ext x h, sqT_ext x h2, by
    have l1 := d.length
    have l2 := d2.length
    rw [zipD_len]
    omega⟩
  yld := fun i e F1 H1 y H2 x he hy => by
    obtain ⟨e1, e2, g1, g2, rfl⟩ := zipD_get he
    obtain ⟨T, z1, z2, rfl, hT, rfl, k1, k2⟩ := hy
    obtain ⟨w1, hw1, dw1⟩ := d.get g1
    obtain ⟨w2, hw2, dw2⟩ := d2.get g2
    have q1 := (k1 vs (sqT_ext x h)).symm.trans hw1
    have q2 := (k2 ws (sqT_ext x h2)).symm.trans hw2
    cases q1
    cases q2
    exact .tup hT (.cons (Dat.ext x dw1) (.one (Dat.ext x dw2)))
theorem bindA {α β γ : Type} (o : Out α) (f : α → Env → Out β) (g : β → Env → Out γ) : (o.bind f).bind g = o.bind fun a ρ => (f a ρ).bind g := by cases o <;> rfl
section
variable {X : Cx} {xr : XRep} {W : WX} {cx : Cxt} {tg : Expr}
/-- a list or a tuple is walked -/
def iBoth (K : PySem.W.Frag) (tl : TE) : TI := fun σ H R => tl σ H fun x H1 => ∃ a, x = .ref a ∧ ((∃ xs, SqL K H1 a xs ∧ R (Itl K a) H1) ∨ (∃ xs, SqT K H1 a xs ∧ R (Itt K a) H1))
theorem pi_both {e : Expr} {te : TE} (he : PE X e te) : PI X tg e (iBoth X.K te) := by
  constructor
  intro pins s σ H R I h
  apply thn (he.run pins s σ H _ I h)
  rintro v s1 ⟨x, H1, I1, r1, a, ex, q1⟩
  subst ex
  cases r1
  have last : ∀ b ∈ [s1.heap.objs.size], FpOk X pins H1 b := fun b hb => by
    rw [List.mem_singleton] at hb
    rw [hb]
    exact I1.fpOk (Nat.le_refl _) I1.fresh
  rcases q1 with ⟨xs, hq, q⟩ | ⟨xs, hq, q⟩
  · obtain ⟨its, rv, p, hz⟩ := I1.list hq
    exact wpAny_pyIter_list p.isList ⟨_, [s1.heap.objs.size], _, _, H1, rfl, I1.kept (t' := s1.toks) fun b o e => Heap.get?_push_of_some _ e, turn_list a s1.heap.objs.size, ⟨_, Heap.get?_push_size _ rfl, rfl, rfl⟩, last, q⟩
  · obtain ⟨its, rv, p, hz⟩ := I1.tuple hq
    exact wpAny_pyIter_tuple (show s1.heap.IsTuple a its.toArray from p) ⟨_, [s1.heap.objs.size], _, _, H1, rfl, I1.kept (t' := s1.toks) fun b o e => Heap.get?_push_of_some _ e, turn_tuple a s1.heap.objs.size, ⟨_, Heap.get?_push_size _ rfl, rfl, rfl⟩, last, q⟩
theorem pdi_seq {e : Expr} {x : Ex} (h : PD X xr W e (evE cx x)) : PDi X xr W tg e (evI cx (.seq x)) := by
  obtain ⟨t, p, k⟩ := h.frz.run
  refine ⟨_, pi_both p, fun F H O σ ρ R S w => ?_⟩
  simp only [evI] at w
  refine k F H O σ ρ _ S (WantG.seq .refl (.refl _) w fun d ρ1 F1 H1 O1 v S1 _ t1 p1 r1 w => ?_)
  obtain ⟨ds, he, w⟩ := w.lift
  cases seq_at r1 he with
  | l f h d => exact ⟨_, rfl, .inl ⟨_, SqL.of h, w F1 H1 O1 _ S1 t1 p1 (walkd_list f h d)⟩⟩
  | t h d => exact ⟨_, rfl, .inr ⟨_, sqT_ext (fun a f => ⟨f, rfl⟩) h, w F1 H1 O1 _ S1 t1 p1 (walkd_tup h d)⟩⟩
theorem small62_iff {i : Int} (h : small62 i = true) : -(2 ^ 62) ≤ i ∧ i < 2 ^ 62 := by
  have : i.natAbs < 2 ^ 62 := by simpa only [small62, decide_eq_true_eq] using h
  omega
theorem star_list {e : Expr} (h : noStar e = true) (env : PySem.Env) : starEach [e] env = [(false, eval e env)] := star_one h _ _
theorem pdi_rng1 {a : Expr} {x : Ex} {p pos : Pos} (hg : Gl X "range") (hm : X.mg "range" = none) (hs : noStar a = true) (ha : PD X xr W a (evE cx x)) : PDi X xr W tg (.Call (.Name "range" p) [a] [] pos) (evI cx (.rng [x])) := by
  obtain ⟨ta, pa, ka⟩ := ha.frz.run
  refine ⟨_, pi_range1 hg hm (pa_cons pa pa_nil (star_one hs _ _)) (star_list hs _), fun F H O σ ρ R S w => ?_⟩
  simp only [evI, evDs] at w
  rw [bindA] at w
  refine ka F H O σ ρ _ S (WantG.seq .refl (.refl _) w fun d1 ρ1 F1 H1 O1 v1 S1 _ t1 p1 h1 w => ?_)
  obtain ⟨is, he, w⟩ := WantG.lift (show WantG _ _ _ _ _ _ _ _ _ (Out.lift (rngOf [d1]) ρ1) _ from w)
  cases d1 <;> try (cases he; done)
  cases h1
  obtain ⟨g, rfl⟩ := gd_some he
  obtain ⟨g1, g2⟩ := small62_iff g
  exact ⟨_, rfl, g1, g2, w F1 H1 O1 _ S1 t1 p1 walkd_rng⟩
theorem pdi_rng2 {a b : Expr} {x y : Ex} {p pos : Pos} (hg : Gl X "range") (hm : X.mg "range" = none) (hs : noStar a = true) (hs2 : noStar b = true) (ha : PD X xr W a (evE cx x)) (hb : PD X xr W b (evE cx y)) : PDi X xr W tg (.Call (.Name "range" p) [a, b] [] pos) (evI cx (.rng [x, y])) := by
  obtain ⟨ta, pa, ka⟩ := ha.frz.run
  obtain ⟨tb, pb, kb⟩ := hb.frz.run
  refine ⟨_, pi_range2 hg hm (pa_cons pa (pa_cons pb pa_nil (star_one hs2 _ _)) (star_one hs _ _)) (by rw [star_one hs, star_list hs2]) (star_list hs2 _), fun F H O σ ρ R S w => ?_⟩
  simp only [evI, evDs] at w
  rw [bindA] at w
  refine ka F H O σ ρ _ S (WantG.seq .refl (.refl _) w fun d1 ρ1 F1 H1 O1 v1 S1 _ t1 p1 h1 w => ?_)
  rw [bindA, bindA] at w
  refine kb F1 H1 O1 σ ρ1 _ S1 (WantG.seq t1 p1 w fun d2 ρ2 F2 H2 O2 v2 S2 t12 t2 p2 h2 w => ?_)
  obtain ⟨is, he, w⟩ := WantG.lift (show WantG _ _ _ _ _ _ _ _ _ (Out.lift (rngOf [d1, d2]) ρ2) _ from w)
  cases d1 <;> try (cases he; done)
  cases d2 <;> try (cases he; done)
  cases h1
  cases h2
  obtain ⟨g, rfl⟩ := gd_some he
  rw [Bool.and_eq_true] at g
  exact ⟨_, _, rfl, ⟨(small62_iff g.1).1, (small62_iff g.1).2, (small62_iff g.2).1, (small62_iff g.2).2⟩, w F2 H2 O2 _ S2 t2 p2 walkd_rng⟩
theorem rng_size {i j c : Int} (hc : c ≠ 0) : Builtin.Range.rangeSize i j c = rngN i j c := by
  unfold Builtin.Range.rangeSize rngN
  rcases Int.lt_or_gt_of_ne hc with h | h
  · have h1 : ¬ 0 < c := by omega
    rw [if_neg h1, if_neg h1]
    split
    · have q : 0 ≤ (i - j - 1) / (-c) := Int.ediv_nonneg (by omega) (by omega)
      omega
    · rfl
  · rw [if_pos h, if_pos h]
    split
    · have q : 0 ≤ (j - i - 1) / c := Int.ediv_nonneg (by omega) (by omega)
      omega
    · rfl
theorem rng_small {i j c : Int} (hi : small62 i = true) (hj : small62 j = true) (hc : c ≠ 0) (hn : c.natAbs < 1073741824) : Builtin.Range.small i j c = true := by
  obtain ⟨i1, i2⟩ := small62_iff hi
  obtain ⟨j1, j2⟩ := small62_iff hj
  have hs : 0 ≤ Builtin.Range.rangeSize i j c ∧ Builtin.Range.rangeSize i j c < 2 ^ 63 := by
    have e := rng_size (i := i) (j := j) hc
    refine ⟨by omega, ?_⟩
    unfold Builtin.Range.rangeSize
    have key : ∀ x y : Int, 0 ≤ x → x < 2 ^ 63 - 1 → 0 < y → x / y + 1 < 2 ^ 63 := fun x y h1 h2 h3 => by
      have := Int.ediv_le_self y h1
      omega
    split
    · split
      · exact key _ _ (by omega) (by omega) (by omega)
      · omega
    · split
      · exact key _ _ (by omega) (by omega) (by omega)
      · omega
  have fit : ∀ x : Int, -(2 ^ 63) ≤ x → x < 2 ^ 63 → Builtin.Range.rangeFitsLong x = true := fun x h1 h2 => by
    unfold Builtin.Range.rangeFitsLong
    rw [Bool.and_eq_true, decide_eq_true_eq, decide_eq_true_eq]
    exact ⟨h1, h2⟩
  unfold Builtin.Range.small
  rw [fit i (by omega) (by omega), fit j (by omega) (by omega), fit c (by omega) (by omega), fit _ (by omega) hs.2]
  split
  · rw [fit _ (by omega) (by omega)]; simp
  · rw [fit _ (by omega) (by omega)]; simp
theorem pdi_rng3 {a b c : Expr} {x y z : Ex} {p pos : Pos} (hg : Gl X "range") (hm : X.mg "range" = none) (hs : noStar a = true) (hs2 : noStar b = true) (hs3 : noStar c = true) (ha : PD X xr W a (evE cx x)) (hb : PD X xr W b (evE cx y)) (hc : PD X xr W c (evE cx z)) :
    PDi X xr W tg (.Call (.Name "range" p) [a, b, c] [] pos) (evI cx (.rng [x, y, z])) := by
  obtain ⟨ta, pa, ka⟩ := ha.frz.run
  obtain ⟨tb, pb, kb⟩ := hb.frz.run
  obtain ⟨tc, pc, kc⟩ := hc.frz.run
  refine ⟨_, pi_range3 hg hm (pa_cons pa (pa_cons pb (pa_cons pc pa_nil (star_one hs3 _ _)) (star_one hs2 _ _)) (star_one hs _ _)) (star_one hs _ _) (star_no (by simp [hs2, hs3]) _ _), fun F H O σ ρ R S w => ?_⟩
  simp only [evI, evDs] at w
  rw [bindA] at w
  refine ka F H O σ ρ _ S (WantG.seq .refl (.refl _) w fun d1 ρ1 F1 H1 O1 v1 S1 _ t1 p1 h1 w => ?_)
  rw [bindA, bindA] at w
  refine kb F1 H1 O1 σ ρ1 _ S1 (WantG.seq t1 p1 w fun d2 ρ2 F2 H2 O2 v2 S2 t12 t2 p2 h2 w => ?_)
  rw [bindA, bindA] at w
  refine kc F2 H2 O2 σ ρ2 _ S2 (WantG.seq t2 p2 w fun d3 ρ3 F3 H3 O3 v3 S3 t23 t3 p3 h3 w => ?_)
  obtain ⟨is, he, w⟩ := WantG.lift (show WantG _ _ _ _ _ _ _ _ _ (Out.lift (rngOf [d1, d2, d3]) ρ3) _ from w)
  cases d1 <;> try (cases he; done)
  cases d2 <;> try (cases he; done)
  cases d3 <;> try (cases he; done)
  cases h1
  cases h2
  cases h3
  obtain ⟨g, rfl⟩ := gd_some he
  simp only [Bool.and_eq_true, decide_eq_true_eq] at g
  obtain ⟨⟨⟨g1, g2⟩, g3⟩, g4⟩ := g
  exact ⟨_, _, _, _, rfl, ⟨g3, g4, rng_small g1 g2 g3 g4, rng_size g3⟩, w F3 H3 O3 _ S3 t3 p3 walkd_rngC⟩
end
end MI
namespace MI
open PySem PySem.Spec PyProof.Rows L2
open AutoSeq1 (wpAny_loadPart')
/-! ### enumerate of a tuple -/
theorem draws_tup {prog : Program} {w : World} {A : Around} (hh : A.handled = none) (it l : Addr) (hne : l ≠ it) (items : Array Value) :
    Draws prog w A it [it, l] items.size (fun i v => items[i]? = some v) (fun i h => h.IsTupleIter it l i ∧ h.IsTuple l items) where
  live := fun i h st => by
    obtain ⟨⟨o, ho, r⟩, q⟩ := st
    exact ⟨o, ho⟩
  frame := fun i h h' st hk => ⟨st.1.at (hk it (by simp)), st.2.at (hk l (by simp))⟩
  item := fun i s Q E hi st hQ => RZ.nextOf_tuple_item st.1 st.2 (x := items[i]) (by simp [hi]) fun h' a b => hQ _ h' s.toks (by simp [hi]) ⟨a, st.2.extBut b.extBut hne⟩ b
  done := fun s Q E st hE => RZ.nextOf_tuple_end hh st.1 st.2 (by simp) hE
theorem meets_enum_tup (l : Addr) (items : Array Value) (n : Nat) (dct : Option Addr) (sl : Array (Option Value)) :
    Meets (Builtin.«enumerate.__new__» ⟨[.type "enumerate", .ref l], []⟩) (fun _ R s => s.heap.get? l = some { cls := .type "tuple", dict := dct, data := .seq items n, slots := sl } ∧
      R (.ok (.ret (.ref (s.heap.push { cls := .type "tuple_iterator", data := .fields #[.ref l, .int 0 0] }).objs.size)))
        { s with heap := (s.heap.push { cls := .type "tuple_iterator", data := .fields #[.ref l, .int 0 0] }).push { cls := .type "enumerate", data := .fields #[.none, .bool false, .ref s.heap.objs.size, rawInt 0, .none, .none] } }) :=
  .of_wp fun prog w A R s h => by
    obtain ⟨hp, g, d, tk, os⟩ := s; obtain ⟨hl, h⟩ := h
    have hsub := sub_enumerate
    have hT : Heap.IsTuple (Shared.heap ⟨hp, g, d, tk, os⟩) l items := ⟨_, hl, rfl, n, rfl⟩
    wp_walk using wpAny_loadPart' hl
    refine wpAny_stack_any fun st => wpAny_pure ?_
    split
    · rename_i c _ _ _ _ _
      cases (c == Value.type "enumerate")
      · wp_walk using wpAny_loadPart' hl, wpAny_pyIter_tuple hT
        exact ⟨_, rfl, h⟩
      · wp_walk using wpAny_loadPart' hl, wpAny_pyIter_tuple hT
        exact ⟨_, rfl, h⟩
    · wp_walk using wpAny_loadPart' hl, wpAny_pyIter_tuple hT
      exact ⟨_, rfl, h⟩
theorem call_enum_tup {prog : Program} {w : World} {A : Around} {E : Value → Shared → Prop} {s : Shared} {l : Addr} {items : Array Value} {Q : Value → Shared → Prop} (hT : s.heap.IsTuple l items)
    (h : ∀ h', IsEnum h' (s.heap.objs.size + 1) s.heap.objs.size 0 .none → h'.IsTupleIter s.heap.objs.size l 0 → h'.objs.size = s.heap.objs.size + 2 →
      (∀ b o, s.heap.get? b = some o → h'.get? b = some o) → Q (.ref (s.heap.objs.size + 1)) { s with heap := h' }) :
    wpAny (model prog w) A (call (.type "enumerate") [.ref l]) Q E s := by
  obtain ⟨⟨c, dct, dt, sl⟩, hl, hc, n, hd⟩ := hT
  have hc : c = .type "tuple" := hc
  have hd : dt = .seq items n := hd
  subst hc hd
  refine callType_new F.called_enumerate (by decide) (F.typeCall_enumerate_1 _) (F.newCall_enumerate_1 _) (fun obj => F.args_object_init_2 obj _) F.entry_enumerate_new (meets_enum_tup l items n dct sl) ⟨hl, ?_⟩
  generalize hp1 : s.heap.push { cls := .type "tuple_iterator", data := .fields #[.ref l, .int 0 0] } = h1
  have hz : h1.objs.size = s.heap.objs.size + 1 := by rw [← hp1]; exact Heap.size_push ..
  have hi : h1.get? s.heap.objs.size = some { cls := .type "tuple_iterator", data := .fields #[.ref l, .int 0 0] } := by rw [← hp1]; exact Heap.get?_push_size _ rfl
  have hk : ∀ b o, s.heap.get? b = some o → h1.get? b = some o := fun b o x => by rw [← hp1]; exact Heap.get?_push_of_some _ x
  show _ ∧ _
  rw [hz]
  have he : IsEnum (h1.push { cls := .type "enumerate", data := .fields #[.none, .bool false, .ref s.heap.objs.size, rawInt 0, .none, .none] }) (s.heap.objs.size + 1) s.heap.objs.size 0 .none := by
    have q := Heap.get?_push_size h1 (o := { cls := .type "enumerate", data := .fields #[.none, .bool false, .ref s.heap.objs.size, rawInt 0, .none, .none] }) rfl
    rw [hz] at q
    exact q
  refine ⟨⟨_, he, rfl⟩, h _ he ⟨_, Heap.get?_push_of_some _ hi, rfl, rfl⟩ (by rw [Heap.size_push, hz]) fun b o x => Heap.get?_push_of_some _ (hk b o x)⟩
/-- the tuple at a, each item in a new pair -/
def IteT (K : PySem.W.Frag) (a : Addr) : L2.It :=
  ⟨fun i H => ∃ (xs : List V) (x : V), SqT K H a xs ∧ xs[i]? = some x, fun i H v H' => ∃ T x, v = .ref T ∧ H T = none ∧ H' = upd H T (.tup [.int (i : Nat), x]) ∧ ∀ xs, SqT K H a xs → xs[i]? = some x, fun i H => ∃ xs : List V, SqT K H a xs ∧ xs.length ≤ i⟩
theorem turn_enumT {P : Program} {w : World} {K : PySem.W.Frag} {elts : List Expr} {kk : Nat} {tpos : Pos} (a e it : Addr) :
    Turn P w K (.Tuple elts kk tpos) (IteT K a) [e, it] e (fun i h => (∃ old, IsEnum h e it ((i : Nat) : Int) old) ∧ h.IsTupleIter it a i ∧ e ≠ it) where
  mem := by simp
  obj := fun i h st b hb => by
    obtain ⟨⟨old, he⟩, ⟨o, ho, hc, hd⟩, _⟩ := st
    rcases List.mem_cons.mp hb with rfl | hb
    · exact ⟨_, he, fun v q => nomatch q⟩
    · rw [List.mem_singleton.mp hb]
      exact ⟨o, ho, fun v q => by rw [hd] at q; cases q⟩
  keep := fun i h h' st k => by
    obtain ⟨⟨old, he⟩, hi, hne⟩ := st
    exact ⟨⟨old, k e (by simp) _ he⟩, hi.at (k it (by simp)), hne⟩
  item := by
    intro X hP hw hK hc i pins s σ H E I hf st hg
    subst hP hw hK
    obtain ⟨⟨old, he⟩, hit, hne⟩ := st
    obtain ⟨xs, x, hq, hx⟩ := hg
    obtain ⟨its, rv, p, hz⟩ := I.tuple hq
    have hT : s.heap.IsTuple a its.toArray := p
    obtain ⟨u, hu, ru⟩ := rv.get hx
    have hel : e < s.heap.objs.size := Heap.lt_size he
    have hil : it < s.heap.objs.size := by obtain ⟨_, q, _⟩ := hit; exact Heap.lt_size q
    have ai : a ≠ it := fun z => by
      obtain ⟨o1, h1, c1, _⟩ := id hit
      obtain ⟨o2, h2, c2, _⟩ := id hT
      rw [z, h1] at h2
      cases h2
      rw [c1] at c2
      injection c2 with c2
      exact absurd c2 (by decide)
    have ae : a ≠ e := fun z => by
      obtain ⟨o2, h2, c2, _⟩ := id hT
      rw [z, he] at h2
      cases h2
      injection c2 with c2
      exact absurd c2 (by decide)
    have hlt : i < its.toArray.size := by
      rcases Nat.lt_or_ge i its.toArray.size with q | q
      · exact q
      · rw [List.getElem?_eq_none (by simpa using q)] at hu; cases hu
    refine wpAny_pyNext_enum_itemD (draws_tup (A := X.A.in1) (I.ok.hd hc) it a ai its.toArray) he ⟨hit, hT⟩ hlt hne (by simp [hne, Ne.symm ae]) fun y h' tk hy ho hst hN hsz hk => ?_
    have ey : y = u := by
      have : its.toArray[i]? = some u := by simpa using hu
      rw [this] at hy
      cases hy
      rfl
    subst ey
    refine ⟨_, rfl, wpAny_letOwnedTupleGo_enum (s := { s with heap := h', toks := tk + 1 }) ho fun h'' he' sb => ?_⟩
    have hN2 : h''.get? s.heap.objs.size = some { cls := .type "tuple", data := .seq #[.int i tk, y] } := (sb.2 _ (Nat.ne_of_gt hel)).trans hN
    have new : ObjOk X.prog X.w (upd H s.heap.objs.size (.tup [.int (i : Nat), x])) h'' s.heap.objs.size (.tup [.int (i : Nat), x]) :=
      ⟨by show 2 ≤ sizeLine; decide, [.int i tk, y], .cons ⟨_, rfl⟩ (.cons ru .nil), ⟨_, hN2, rfl, _, rfl⟩⟩
    have I1 : Inv X pins σ (upd H s.heap.objs.size (.tup [.int (i : Nat), x])) { s with heap := h'', toks := tk + 1 } :=
      I.turnedNew (ch := [e, it]) (fun b ob hb q => (sb.2 b (fun z => hb (by simp [z]))).trans (hk b ob (fun z => hb (by simp [z])) (fun z => hb (by simp [z])) q)) hf (Nat.le_refl _) new
    refine ⟨.ref s.heap.objs.size, _, I1, rfl, ⟨_, x, rfl, I.hok.fresh (Nat.le_refl _), rfl, fun ys hy2 => ?_⟩, ⟨⟨y, ?_⟩, hst.1.at fun o q => (sb.2 it (Ne.symm hne)).trans q, hne⟩, fun b hb => ?_⟩
    · rw [I.tuple_inj hy2 hq]; exact hx
    · have e1 : ((i + 1 : Nat) : Int) = (i : Int) + 1 := by omega
      rw [e1]; exact he'
    · have hb' : b < s.heap.objs.size := by
        rcases List.mem_cons.mp hb with z | z
        · rw [z]; exact hel
        · rw [List.mem_singleton.mp z]; exact hil
      rw [upd_ne (Nat.ne_of_lt hb')]
      exact (hf b hb).1
  done := by
    intro X hP hw hK hc i pins s σ H E I hf st hg
    subst hP hw hK
    obtain ⟨⟨old, he⟩, hit, hne⟩ := st
    obtain ⟨xs, hq, hx⟩ := hg
    obtain ⟨its, rv, p, hz⟩ := I.tuple hq
    have hT : s.heap.IsTuple a its.toArray := p
    obtain ⟨f0, f1, f2, f3, f4, f5⟩ := hf it (by simp)
    have hl := rv.length
    have D : Draws X.prog X.w X.A.in1 it [it, a] i (fun _ _ => True) (fun j h => j = i ∧ h.IsTupleIter it a i ∧ h.IsTuple a its.toArray) :=
      { live := fun j h st => by
          obtain ⟨_, ⟨o, ho, r⟩, q⟩ := st
          exact ⟨o, ho⟩
        frame := fun j h h' st hk => ⟨st.1, st.2.1.at (hk it (by simp)), st.2.2.at (hk a (by simp))⟩
        item := fun j s Q E hj st _ => absurd st.1 (Nat.ne_of_lt hj)
        done := fun s Q E st hE => RZ.nextOf_tuple_end (I.ok.hd hc) st.2.1 st.2.2 (by simp; omega) hE }
    exact wpAny_pyNext_enum_endD D he ⟨rfl, hit, hT⟩ fun h' eb => ⟨rfl, I.turned (t' := s.toks) (fun b o hb q => eb b o hb q) f0 f1 f3 f4 f5⟩
  self := fun A i s Q E st h => by
    obtain ⟨⟨_, he⟩, _⟩ := st
    exact wpAny_pyIter_enum he h
/-- of a list or a tuple -/
def iEnumA (K : PySem.W.Frag) (ta : TA) : TI := fun σ H R => ta σ H fun vs H1 => ∃ a, vs = [.ref a] ∧ ((∃ xs, SqL K H1 a xs ∧ R (Ite K a) H1) ∨ (∃ xs, SqT K H1 a xs ∧ R (IteT K a) H1))
theorem pi_enumA {X : Cx} {e : Expr} {ta : TA} {p pos tpos : Pos} {elts : List Expr} {kk : Nat} (hg : Gl X "enumerate") (hm : X.mg "enumerate" = none) (ha : PA X [e] ta) (hs : starEach [e] X.env = [(false, eval e X.env)]) :
    PI X (.Tuple elts kk tpos) (.Call (.Name "enumerate" p) [e] [] pos) (iEnumA X.K ta) := by
  refine ⟨fun pins s σ H R I h => ?_⟩
  refine Call_ (ld_blt I hg hm boot_enumerate (PyProof.Rows.callWith_type1 (thn (ha.run pos pins s σ H _ I h) fun us s1 ⟨vs, H1, I1, r1, q1⟩ => ?_) hs rfl))
  obtain ⟨a, ex, q1⟩ := q1
  subst ex
  have last : ∀ b ∈ [s1.heap.objs.size + 1, s1.heap.objs.size], FpOk X pins H1 b := fun b hb => by
    have hle : s1.heap.objs.size ≤ b := by
      rcases List.mem_cons.mp hb with z | z
      · omega
      · rw [List.mem_singleton.mp z]; exact Nat.le_refl _
    exact I1.fpOk hle (I1.hok.fresh hle)
  cases r1 with
  | cons r rr =>
    cases rr
    cases r
    rcases q1 with ⟨xs, hq, q⟩ | ⟨xs, hq, q⟩
    · obtain ⟨its, rv, p', hz⟩ := I1.list hq
      exact call_enumerate_list p'.isList fun h' he hit hsz hk => wpAny_pyIter_enum he ⟨s1.heap.objs.size + 1, [s1.heap.objs.size + 1, s1.heap.objs.size], _, _, H1, rfl, I1.kept (t' := s1.toks) hk, turn_enum a (s1.heap.objs.size + 1) s1.heap.objs.size, ⟨⟨.none, he⟩, hit, Nat.succ_ne_self _⟩, last, q⟩
    · obtain ⟨its, rv, p', hz⟩ := I1.tuple hq
      exact call_enum_tup (show s1.heap.IsTuple a its.toArray from p') fun h' he hit hsz hk => wpAny_pyIter_enum he ⟨s1.heap.objs.size + 1, [s1.heap.objs.size + 1, s1.heap.objs.size], _, _, H1, rfl, I1.kept (t' := s1.toks) hk, turn_enumT a (s1.heap.objs.size + 1) s1.heap.objs.size, ⟨⟨.none, he⟩, hit, Nat.succ_ne_self _⟩, last, q⟩
variable {K : PySem.W.Frag} {F : Fz} {H : Hp}
theorem walkd_enumT {a : Addr} {vs : List V} {ds : List D} (h : F a ∧ H a = some (.tup vs) ∨ KTup K a vs) (d : Dats K F H vs ds) : WalkD K F H (IteT K a) (enumD 0 ds) where
  go := fun i F1 H1 x hi => by
    have hi' : i < vs.length := by rw [d.length]; rw [enumD_len] at hi; exact hi
    exact ⟨vs, vs[i], sqT_ext x h, by simp [hi']⟩
  stop := fun F1 H1 x => ⟨vs, sqT_ext x h, by rw [d.length, enumD_len]; exact Nat.le_refl _⟩
  yld := fun i e F1 H1 y H2 x he hy => by
    obtain ⟨e1, h1, rfl⟩ := enumD_get he
    obtain ⟨T, z, rfl, hT, rfl, hz⟩ := hy
    obtain ⟨w, hw, dw⟩ := d.get h1
    have := (hz vs (sqT_ext x h)).symm.trans hw
    cases this
    exact .tup hT (.cons (by simpa using Dat.int _) (.one (Dat.ext x dw)))
section
variable {X : Cx} {xr : XRep} {W : WX} {cx : Cxt}
theorem pdi_enum {e : Expr} {x : Ex} {elts : List Expr} {kk : Nat} {tpos p pos : Pos} (hg : Gl X "enumerate") (hm : X.mg "enumerate" = none) (hs : noStar e = true) (ha : PD X xr W e (evE cx x)) : PDi X xr W (.Tuple elts kk tpos) (.Call (.Name "enumerate" p) [e] [] pos) (evI cx (.enum x)) := by
  obtain ⟨ta, pa, ka⟩ := ha.frz.run
  refine ⟨_, pi_enumA hg hm (pa_cons pa pa_nil (star_one hs _ _)) (star_list hs _), fun F H O σ ρ R S w => ?_⟩
  simp only [evI] at w
  refine ka F H O σ ρ _ S (WantG.seq .refl (.refl _) w fun d1 ρ1 F1 H1 O1 v1 S1 _ t1 p1 h1 w => ?_)
  obtain ⟨is, he, w⟩ := w.lift
  cases d1 <;> try (cases he; done)
  · cases he
    cases h1 with
    | lst f h d => exact ⟨_, rfl, .inl ⟨_, SqL.of h, w F1 H1 O1 _ S1 t1 p1 (walkd_enum f h d)⟩⟩
  · cases he
    cases h1 with
    | tup f h d => exact ⟨_, rfl, .inr ⟨_, sqT_ext (fun a f => ⟨f, rfl⟩) (.inl ⟨f, h⟩), w F1 H1 O1 _ S1 t1 p1 (walkd_enumT (.inl ⟨f, h⟩) d)⟩⟩
    | ktup h d => exact ⟨_, rfl, .inr ⟨_, sqT_ext (F := F1) (fun a f => ⟨f, rfl⟩) (.inr h), w F1 H1 O1 _ S1 t1 p1 (walkd_enumT (.inr h) d)⟩⟩
end
end MI
namespace MI
open PySem PySem.Spec PyProof.Rows L2
/-! ### list(zip(a, b)), a and b tuples: the pairs that were given out stay -/
section
variable {prog : Program} {w : World} {A : Around} {E : Value → Shared → Prop} {s : Shared}
theorem zipT_held {z TI TO T i1 i2 l1 l2 : Addr} {f : Bool} {oT : Obj} {k1 k2 : Nat} {xs ys : Array Value} {x y : Value} {Q : Value → Shared → Prop} (D : ZipApart z TI TO i1 i2 l1 l2)
    (hz : IsZipHeld s.heap z TI TO T f) (hT : s.heap.get? T = some oT) (hTI : IsPair s.heap TI (.ref i1) (.ref i2))
    (h1 : s.heap.IsTupleIter i1 l1 k1) (h2 : s.heap.IsTupleIter i2 l2 k2) (hl1 : s.heap.IsTuple l1 xs) (hl2 : s.heap.IsTuple l2 ys) (hx : xs[k1]? = some x) (hy : ys[k2]? = some y)
    (hQ : ∀ h', IsZipHeld h' z TI TO T true → h'.IsTupleIter i1 l1 (k1 + 1) → h'.IsTupleIter i2 l2 (k2 + 1) → IsPair h' s.heap.objs.size x y → h'.objs.size = s.heap.objs.size + 1 →
      (∀ c o, c ≠ z → c ≠ i1 → c ≠ i2 → s.heap.get? c = some o → h'.get? c = some o) → Q (.ref s.heap.objs.size) { s with heap := h' }) :
    wpAny (model prog w) A (Builtin.«zip.__next__» ⟨[.ref z], []⟩) (fun fin s' => ∃ v, fin = .done (.ret v) ∧ Q v s') E s := by
  show wpAny _ _ (field (.ref z) 2 >>= _) _ _ _
  refine wpAny_bind (wpAny_field hz rfl (x := .bool false) rfl ?_)
  show wpAny _ _ (field (.ref z) 3 >>= _) _ _ _
  refine wpAny_bind (wpAny_field hz rfl (x := .ref TI) rfl ?_)
  refine wpAny_bind (wpAny_seqItems hTI rfl ?_)
  show wpAny _ _ (Builtin.SmallTypes.ownedTupleIsFree (.ref z) >>= _) _ _ _
  refine wpAny_bind (wpAny_tupleHeld_zip hz hT fun h₁ hz₁ hs₁ => ?_)
  simp only [Bool.false_eq_true, if_false]
  refine wpAny_bind ?_
  rw [← Array.forIn_toList]
  simp only [List.forIn_cons, List.forIn_nil]
  refine wpAny_bind (wpAny_bind (wpAny_holding ?_))
  show wpAny _ _ (Builtin.SmallTypes.nextOf (.ref i1) >>= _) _ _ _
  refine wpAny_bind (RZ.nextOf_tuple_item (s := { s with heap := h₁ }) (h1.extBut hs₁.extBut D.i1z) (hl1.extBut hs₁.extBut D.l1z) hx fun h₂ h1₂ hs₂ => wpAny_pure ?_)
  refine wpAny_pure ?_
  refine wpAny_bind (wpAny_bind (wpAny_holding ?_))
  show wpAny _ _ (Builtin.SmallTypes.nextOf (.ref i2) >>= _) _ _ _
  refine wpAny_bind (RZ.nextOf_tuple_item (s := { s with heap := h₂ }) ((h2.extBut hs₁.extBut D.i2z).extBut hs₂.extBut D.i12.symm) ((hl2.extBut hs₁.extBut D.l2z).extBut hs₂.extBut D.l2i1) hy fun h₃ h2₃ hs₃ => wpAny_pure ?_)
  refine wpAny_pure (wpAny_pure ?_)
  show wpAny _ _ (newTuple [x, y] >>= _) _ _ _
  refine wpAny_bind (wpAny_newTuple (wpAny_pure ⟨_, rfl, ?_⟩))
  have sz : h₃.objs.size = s.heap.objs.size := by rw [hs₃.1, hs₂.1, hs₁.1]
  have z3 : IsZipHeld h₃ z TI TO T true := hs₃.extBut _ _ D.i2z.symm (hs₂.extBut _ _ D.i1z.symm hz₁)
  have kp : ∀ c o, c ≠ z → c ≠ i1 → c ≠ i2 → s.heap.get? c = some o → h₃.get? c = some o := fun c o c1 c2 c3 e => hs₃.extBut _ _ c3 (hs₂.extBut _ _ c2 (hs₁.extBut _ _ c1 e))
  have i1' : h₃.IsTupleIter i1 l1 (k1 + 1) := h1₂.extBut hs₃.extBut D.i12
  have pr : IsPair (h₃.push { cls := .type "tuple", data := .seq #[x, y] }) h₃.objs.size x y := Heap.get?_push_size _ rfl
  have ps : (h₃.push { cls := .type "tuple", data := .seq #[x, y] }).objs.size = h₃.objs.size + 1 := Heap.size_push ..
  show Q (.ref h₃.objs.size) _
  rw [sz] at pr ps ⊢
  exact hQ _ (Heap.get?_push_of_some _ z3) (i1'.at fun o e => Heap.get?_push_of_some _ e) (h2₃.at fun o e => Heap.get?_push_of_some _ e) pr ps fun c o c1 c2 c3 e => Heap.get?_push_of_some _ (kp c o c1 c2 c3 e)
theorem zipT_held_end {z TI TO T i1 i2 l1 l2 : Addr} {f : Bool} {oT : Obj} {k1 k2 : Nat} {xs ys : Array Value} {Q : Fin → Shared → Prop} (hh : A.handled = none) (D : ZipApart z TI TO i1 i2 l1 l2)
    (hz : IsZipHeld s.heap z TI TO T f) (hT : s.heap.get? T = some oT) (hTI : IsPair s.heap TI (.ref i1) (.ref i2))
    (h1 : s.heap.IsTupleIter i1 l1 k1) (h2 : s.heap.IsTupleIter i2 l2 k2) (hl1 : s.heap.IsTuple l1 xs) (hl2 : s.heap.IsTuple l2 ys) (hend : xs[k1]? = none ∨ ys[k2]? = none)
    (hE : ∀ h' e, (∀ c o, c ≠ z → c ≠ i1 → c ≠ i2 → s.heap.get? c = some o → h'.get? c = some o) → (∃ o, h'.get? e = some o ∧ o.cls = .type "StopIteration") → E (.ref e) { s with heap := h' }) :
    wpAny (model prog w) A (Builtin.«zip.__next__» ⟨[.ref z], []⟩) Q E s := by
  show wpAny _ _ (field (.ref z) 2 >>= _) _ _ _
  refine wpAny_bind (wpAny_field hz rfl (x := .bool false) rfl ?_)
  show wpAny _ _ (field (.ref z) 3 >>= _) _ _ _
  refine wpAny_bind (wpAny_field hz rfl (x := .ref TI) rfl ?_)
  refine wpAny_bind (wpAny_seqItems hTI rfl ?_)
  show wpAny _ _ (Builtin.SmallTypes.ownedTupleIsFree (.ref z) >>= _) _ _ _
  refine wpAny_bind (wpAny_tupleHeld_zip hz hT fun h₁ hz₁ hs₁ => ?_)
  simp only [Bool.false_eq_true, if_false]
  refine wpAny_bind ?_
  rw [← Array.forIn_toList]
  simp only [List.forIn_cons, List.forIn_nil]
  refine wpAny_bind (wpAny_bind (wpAny_holding ?_))
  show wpAny _ _ (Builtin.SmallTypes.nextOf (.ref i1) >>= _) _ _ _
  cases hx : xs[k1]? with
  | none =>
    refine wpAny_bind (RZ.nextOf_tuple_end (s := { s with heap := h₁ }) hh (h1.extBut hs₁.extBut D.i1z) (hl1.extBut hs₁.extBut D.l1z) hx fun h₂ e hs₂ he => ?_)
    exact hE h₂ e (fun c o c1 c2 _ x => hs₂ _ _ c2 (hs₁.extBut _ _ c1 x)) he
  | some x =>
    have hy : ys[k2]? = none := by
      rcases hend with h | h
      · rw [hx] at h; cases h
      · exact h
    refine wpAny_bind (RZ.nextOf_tuple_item (s := { s with heap := h₁ }) (h1.extBut hs₁.extBut D.i1z) (hl1.extBut hs₁.extBut D.l1z) hx fun h₂ h1₂ hs₂ => wpAny_pure ?_)
    refine wpAny_pure ?_
    refine wpAny_bind (wpAny_bind (wpAny_holding ?_))
    show wpAny _ _ (Builtin.SmallTypes.nextOf (.ref i2) >>= _) _ _ _
    refine wpAny_bind (RZ.nextOf_tuple_end (s := { s with heap := h₂ }) hh ((h2.extBut hs₁.extBut D.i2z).extBut hs₂.extBut D.i12.symm) ((hl2.extBut hs₁.extBut D.l2z).extBut hs₂.extBut D.l2i1) hy fun h₃ e hs₃ he => ?_)
    exact hE h₃ e (fun c o c1 c2 c3 x => hs₃ _ _ c3 (hs₂.extBut _ _ c2 (hs₁.extBut _ _ c1 x))) he
theorem next_zipT_held {z TI TO T i1 i2 l1 l2 : Addr} {f : Bool} {oT : Obj} {k1 k2 : Nat} {xs ys : Array Value} {x y : Value} {Q : Option Value → Shared → Prop} (D : ZipApart z TI TO i1 i2 l1 l2)
    (hz : IsZipHeld s.heap z TI TO T f) (hT : s.heap.get? T = some oT) (hTI : IsPair s.heap TI (.ref i1) (.ref i2))
    (h1 : s.heap.IsTupleIter i1 l1 k1) (h2 : s.heap.IsTupleIter i2 l2 k2) (hl1 : s.heap.IsTuple l1 xs) (hl2 : s.heap.IsTuple l2 ys) (hx : xs[k1]? = some x) (hy : ys[k2]? = some y)
    (hQ : ∀ h', IsZipHeld h' z TI TO T true → h'.IsTupleIter i1 l1 (k1 + 1) → h'.IsTupleIter i2 l2 (k2 + 1) → IsPair h' s.heap.objs.size x y → h'.objs.size = s.heap.objs.size + 1 →
      (∀ c o, c ≠ z → c ≠ i1 → c ≠ i2 → s.heap.get? c = some o → h'.get? c = some o) → Q (some (.ref s.heap.objs.size)) { s with heap := h' }) :
    wpAny (model prog w) A (pyNext (.ref z)) Q E s := by
  have ty : s.TypeIs (.ref z) "zip" := ⟨_, hz, rfl⟩
  unfold pyNext
  exact wpAny_bind (wpAny_attempt (wpAny_callSpecial?_slot (name := Str.ofString "__next__") ty F.slot_zip_next
    (wpAny_call_entry F.slot_zip_next ty F.entry_zip_next (zipT_held D hz hT hTI h1 h2 hl1 hl2 hx hy fun h' a1 a3 a4 a5 a6 a7 => wpAny_pure (hQ h' a1 a3 a4 a5 a6 a7)) (F.args_zip_next_1 _))))
theorem end_zipT_held {z TI TO T i1 i2 l1 l2 : Addr} {f : Bool} {oT : Obj} {k1 k2 : Nat} {xs ys : Array Value} {Q : Option Value → Shared → Prop} (hh : A.handled = none) (D : ZipApart z TI TO i1 i2 l1 l2)
    (hz : IsZipHeld s.heap z TI TO T f) (hT : s.heap.get? T = some oT) (hTI : IsPair s.heap TI (.ref i1) (.ref i2))
    (h1 : s.heap.IsTupleIter i1 l1 k1) (h2 : s.heap.IsTupleIter i2 l2 k2) (hl1 : s.heap.IsTuple l1 xs) (hl2 : s.heap.IsTuple l2 ys) (hend : xs[k1]? = none ∨ ys[k2]? = none)
    (hQ : ∀ h', (∀ c o, c ≠ z → c ≠ i1 → c ≠ i2 → s.heap.get? c = some o → h'.get? c = some o) → Q none { s with heap := h' }) : wpAny (model prog w) A (pyNext (.ref z)) Q E s := by
  have ty : s.TypeIs (.ref z) "zip" := ⟨_, hz, rfl⟩
  unfold pyNext
  refine wpAny_bind (wpAny_attempt (wpAny_callSpecial?_slot (name := Str.ofString "__next__") ty F.slot_zip_next
    (wpAny_call_entry F.slot_zip_next ty F.entry_zip_next (zipT_held_end hh D hz hT hTI h1 h2 hl1 hl2 hend fun h' e hk he => ?_) (F.args_zip_next_1 _))))
  obtain ⟨o, ho, hc⟩ := he
  refine wpAny_bind (wpAny_isInstance (T := "StopIteration") (b := true) ⟨o, ho, hc⟩ isSubtype_stop ?_)
  exact wpAny_pure (hQ _ hk)
end
/-- a zip of two tuples, i pairs given out; S: the list that is being filled -/
structure ZSt (z TI TO i1 i2 l1 l2 S : Addr) (xs ys : Array Value) (i : Nat) (h : Heap) : Prop where
  pTI : IsPair h TI (.ref i1) (.ref i2)
  t1 : h.IsTupleIter i1 l1 i
  t2 : h.IsTupleIter i2 l2 i
  a1 : h.IsTuple l1 xs
  a2 : h.IsTuple l2 ys
  st : (IsZip h z TI TO .none ∧ ∃ a b, IsPair h TO a b) ∨ ∃ T f oT, IsZipHeld h z TI TO T f ∧ h.get? T = some oT ∧ T ≠ z ∧ T ≠ i1 ∧ T ≠ i2 ∧ T ≠ S
theorem ZSt.keep {z TI TO i1 i2 l1 l2 S : Addr} {xs ys : Array Value} {i : Nat} {h h' : Heap} (x : ZSt z TI TO i1 i2 l1 l2 S xs ys i h) (hk : ∀ b o, b ≠ S → h.get? b = some o → h'.get? b = some o) (nz : z ≠ S) (nTI : TI ≠ S) (nTO : TO ≠ S) (n1 : i1 ≠ S) (n2 : i2 ≠ S) (m1 : l1 ≠ S) (m2 : l2 ≠ S) : ZSt z TI TO i1 i2 l1 l2 S xs ys i h' := by
  refine ⟨hk _ _ nTI x.pTI, x.t1.at fun o e => hk _ o n1 e, x.t2.at fun o e => hk _ o n2 e, x.a1.at fun o e => hk _ o m1 e, x.a2.at fun o e => hk _ o m2 e, ?_⟩
  rcases x.st with ⟨hz, a, b, hTO⟩ | ⟨T, f, oT, hz, hT, r1, r2, r3, r4⟩
  · exact .inl ⟨hk _ _ nz hz, a, b, hk _ _ nTO hTO⟩
  · exact .inr ⟨T, f, oT, hk _ _ nz hz, hk _ _ r4 hT, r1, r2, r3, r4⟩
section
variable {prog : Program} {w : World} {A : Around} {E : Value → Shared → Prop} {s : Shared}
theorem zst_item {z TI TO i1 i2 l1 l2 S : Addr} {xs ys : Array Value} {i : Nat} {x y : Value} {Q : Option Value → Shared → Prop} (D : ZipApart z TI TO i1 i2 l1 l2) (st : ZSt z TI TO i1 i2 l1 l2 S xs ys i s.heap) (hS : S < s.heap.objs.size) (ex : xs[i]? = some x) (ey : ys[i]? = some y)
    (hQ : ∀ h', ZSt z TI TO i1 i2 l1 l2 S xs ys (i + 1) h' → IsPair h' s.heap.objs.size x y → (∀ c o, c ≠ z → c ≠ TO → c ≠ i1 → c ≠ i2 → s.heap.get? c = some o → h'.get? c = some o) → Q (some (.ref s.heap.objs.size)) { s with heap := h' }) :
    wpAny (model prog w) A (pyNext (.ref z)) Q E s := by
  have lt : ∀ {c o}, s.heap.get? c = some o → s.heap.objs.size ≠ c := fun e => Nat.ne_of_gt (Heap.lt_size e)
  have n1 : s.heap.objs.size ≠ i1 := by obtain ⟨_, e, _⟩ := st.t1; exact lt e
  have n2 : s.heap.objs.size ≠ i2 := by obtain ⟨_, e, _⟩ := st.t2; exact lt e
  rcases st.st with ⟨hz, a, b, hTO⟩ | ⟨T, f, oT, hz, hT, r1, r2, r3, r4⟩
  · refine RZ.pyNext_zipT_item D hz st.pTI hTO st.t1 st.t2 st.a1 st.a2 ex ey fun h' q1 q2 q3 q4 q5 q6 hk => ?_
    exact hQ h' ⟨hk _ _ D.TIz D.TITO D.TIi1 D.TIi2 st.pTI, q3, q4, st.a1.at fun o e => hk _ o D.l1z D.l1TO D.l1i1 D.l1i2 e, st.a2.at fun o e => hk _ o D.l2z D.l2TO D.l2i1 D.l2i2 e,
      .inr ⟨s.heap.objs.size, false, _, q1, q5, lt hz, n1, n2, Nat.ne_of_gt hS⟩⟩ q5 hk
  · refine next_zipT_held D hz hT st.pTI st.t1 st.t2 st.a1 st.a2 ex ey fun h' q1 q3 q4 q5 q6 hk => ?_
    exact hQ h' ⟨hk _ _ D.TIz D.TIi1 D.TIi2 st.pTI, q3, q4, st.a1.at fun o e => hk _ o D.l1z D.l1i1 D.l1i2 e, st.a2.at fun o e => hk _ o D.l2z D.l2i1 D.l2i2 e,
      .inr ⟨T, true, oT, q1, hk _ _ r1 r2 r3 hT, r1, r2, r3, r4⟩⟩ q5 fun c o c1 _ c3 c4 e => hk c o c1 c3 c4 e
theorem zst_done {z TI TO i1 i2 l1 l2 S : Addr} {xs ys : Array Value} {i : Nat} {Q : Option Value → Shared → Prop} (hh : A.handled = none) (D : ZipApart z TI TO i1 i2 l1 l2) (st : ZSt z TI TO i1 i2 l1 l2 S xs ys i s.heap) (hend : xs[i]? = none ∨ ys[i]? = none)
    (hQ : ∀ h', (∀ c o, c ≠ z → c ≠ TO → c ≠ i1 → c ≠ i2 → s.heap.get? c = some o → h'.get? c = some o) → Q none { s with heap := h' }) : wpAny (model prog w) A (pyNext (.ref z)) Q E s := by
  rcases st.st with ⟨hz, a, b, hTO⟩ | ⟨T, f, oT, hz, hT, r1, r2, r3, r4⟩
  · exact RZ.pyNext_zipT_end hh D hz st.pTI hTO st.t1 st.t2 st.a1 st.a2 hend hQ
  · exact end_zipT_held hh D hz hT st.pTI st.t1 st.t2 st.a1 st.a2 hend fun h' hk => hQ h' fun c o c1 _ c3 c4 e => hk c o c1 c3 c4 e
end
/-- the pairs, at places that rise behind lo -/
structure ZG (xs ys : Array Value) (lo : Addr) (h : Heap) (as : List Addr) : Prop where
  rise : as.Pairwise (· < ·)
  above : ∀ a ∈ as, lo < a
  pairs : ∀ (j : Nat) (a : Addr), as[j]? = some a → ∃ x y, xs[j]? = some x ∧ ys[j]? = some y ∧ h.get? a = some { cls := .type "tuple", data := .seq #[x, y] }
section
variable {prog : Program} {w : World} {A : Around} {s : Shared} {R : Result → Shared → Prop}
theorem zl_loop {z TI TO i1 i2 l1 l2 S : Addr} {xs ys : Array Value} {n : Nat} (hh : A.handled = none) (D : ZipApart z TI TO i1 i2 l1 l2) (nz : z < S) (nTI : TI < S) (nTO : TO < S) (n1 : i1 < S) (n2 : i2 < S) (m1 : l1 < S) (m2 : l2 < S) (hn : n = min xs.size ys.size) (hz : n ≤ sizeLine) (res : Value) {h₁ : Heap}
    (hR : ∀ h' tk acc c as, (∀ b o, b ≠ S → b ≠ z → b ≠ TO → b ≠ i1 → b ≠ i2 → h₁.get? b = some o → h'.get? b = some o) → h'.get? S = some { cls := .type "list", dict := none, data := .seq acc c, slots := #[] } → as.length = n → ZG xs ys S h' as →
      acc.toList = as.map Value.ref → R (.ok (.ret res)) { s with heap := h', toks := tk }) :
    ∀ (k i : Nat) (h : Heap) (tk c : Nat) (acc : Array Value) (as : List Addr), n - i = k → i ≤ n → ZSt z TI TO i1 i2 l1 l2 S xs ys i h → (∀ b o, b ≠ S → b ≠ z → b ≠ TO → b ≠ i1 → b ≠ i2 → h₁.get? b = some o → h.get? b = some o) →
      h.get? S = some { cls := .type "list", dict := none, data := .seq acc c, slots := #[] } → acc.toList = as.map Value.ref → as.length = i → ZG xs ys S h as →
      codeAny (model prog w) A (.builtin "list.extend.loop" ⟨[.ref S, .ref z, res], []⟩) R { s with heap := h, toks := tk } := by
  intro k
  induction k with
  | zero =>
    intro i h tk c acc as hk hi st hkeep hS hacc hal G
    have hin : i = n := by omega
    have hend : xs[i]? = none ∨ ys[i]? = none := by
      rcases Nat.le_total xs.size ys.size with q | q
      · exact .inl (Array.getElem?_eq_none (by omega))
      · exact .inr (Array.getElem?_eq_none (by omega))
    refine codeAny_builtin PySem.F.entry_extend_loop ?_
    rw [Around.under_plainId PySem.F.plain_extend_loop _]
    show wpAny _ A.in1 (pyNext (.ref z) >>= _) _ _ _
    refine wpAny_bind (zst_done (s := { s with heap := h, toks := tk }) (A := A.in1) hh D st hend fun h' he => ?_)
    refine wpAny_pure (hR h' tk acc c as (fun b o c0 c1 c2 c3 c4 e => he b o c1 c2 c3 c4 (hkeep b o c0 c1 c2 c3 c4 e)) (he S _ (Nat.ne_of_gt nz) (Nat.ne_of_gt nTO) (Nat.ne_of_gt n1) (Nat.ne_of_gt n2) hS) (by omega) ⟨G.rise, G.above, fun j a hj => ?_⟩ hacc)
    obtain ⟨x, y, e1, e2, e3⟩ := G.pairs j a hj
    have ha := G.above a (List.mem_of_getElem? hj)
    exact ⟨x, y, e1, e2, he a _ (Nat.ne_of_gt (Nat.lt_trans nz ha)) (Nat.ne_of_gt (Nat.lt_trans nTO ha)) (Nat.ne_of_gt (Nat.lt_trans n1 ha)) (Nat.ne_of_gt (Nat.lt_trans n2 ha)) e3⟩
  | succ k ih =>
    intro i h tk c acc as hk hi st hkeep hS hacc hal G
    have hlt : i < n := by omega
    have ex : xs[i]? = some xs[i] := Array.getElem?_eq_getElem (by omega)
    have ey : ys[i]? = some ys[i] := Array.getElem?_eq_getElem (by omega)
    have hsz : acc.size = i := by rw [← Array.length_toList, hacc, List.length_map, hal]
    have hSl : S < h.objs.size := Heap.lt_size hS
    refine codeAny_builtin PySem.F.entry_extend_loop ?_
    rw [Around.under_plainId PySem.F.plain_extend_loop _]
    show wpAny _ A.in1 (pyNext (.ref z) >>= _) _ _ _
    refine wpAny_bind (zst_item (s := { s with heap := h, toks := tk }) (S := S) D st hSl ex ey fun h' st' ht hkp => ?_)
    have hS' := hkp S _ (Nat.ne_of_gt nz) (Nat.ne_of_gt nTO) (Nat.ne_of_gt n1) (Nat.ne_of_gt n2) hS
    have ht : h'.get? h.objs.size = some { cls := .type "tuple", data := .seq #[xs[i], ys[i]] } := ht
    have up : ∀ b o, b ≠ S → h'.get? b = some o → (h'.update S (Obj.mapSeq (·.push (Value.ref h.objs.size)))).get? b = some o := fun b o hb e => (Heap.get?_update_other _ _ (Ne.symm hb)).trans e
    show wpAny _ A.in1 (updateSeq S (·.push (Value.ref h.objs.size)) >>= _) _ _ _
    refine wpAny_bind ?_
    refine wpAny_updateSeq hS' rfl (wpAny_pure ⟨plainId_quiet PySem.F.plain_extend_loop _, ih (i + 1) _ tk _ (acc.push (Value.ref h.objs.size)) (as ++ [h.objs.size]) (by omega) hlt
      (st'.keep up (Nat.ne_of_lt nz) (Nat.ne_of_lt nTI) (Nat.ne_of_lt nTO) (Nat.ne_of_lt n1) (Nat.ne_of_lt n2) (Nat.ne_of_lt m1) (Nat.ne_of_lt m2))
      (fun b o c0 c1 c2 c3 c4 e => up b o c0 (hkp b o c1 c2 c3 c4 (hkeep b o c0 c1 c2 c3 c4 e))) (Heap.get?_update_self _ hS' rfl) (by rw [Array.toList_push, hacc, List.map_append]; rfl) (by rw [List.length_append, hal]; rfl) ⟨?_, ?_, ?_⟩⟩) (by rw [hsz]; omega) (by show (acc.push (Value.ref h.objs.size)).size ≤ sizeLine + 1; rw [Array.size_push, hsz]; omega)
    · refine List.pairwise_append.mpr ⟨G.rise, List.pairwise_singleton _ _, fun a ha b hb => ?_⟩
      rw [List.mem_singleton.mp hb]
      obtain ⟨j, hj⟩ := List.mem_iff_getElem?.mp ha
      obtain ⟨_, _, _, _, e⟩ := G.pairs j a hj
      exact Heap.lt_size e
    · intro a ha
      rcases List.mem_append.mp ha with ha | ha
      · exact G.above a ha
      · rw [List.mem_singleton.mp ha]; exact hSl
    · intro j b hj
      rcases Nat.lt_trichotomy j as.length with q | q | q
      · rw [List.getElem?_append_left q] at hj
        obtain ⟨x, y, e1, e2, e3⟩ := G.pairs j b hj
        have hb := G.above b (List.mem_of_getElem? hj)
        exact ⟨x, y, e1, e2, up b _ (Nat.ne_of_gt hb) (hkp b _ (Nat.ne_of_gt (Nat.lt_trans nz hb)) (Nat.ne_of_gt (Nat.lt_trans nTO hb)) (Nat.ne_of_gt (Nat.lt_trans n1 hb)) (Nat.ne_of_gt (Nat.lt_trans n2 hb)) e3)⟩
      · subst q
        have hb : h.objs.size = b := by simpa using hj
        subst hb
        exact ⟨xs[i], ys[i], by rw [hal]; exact ex, by rw [hal]; exact ey, up _ _ (Nat.ne_of_gt hSl) ht⟩
      · have none : (as ++ [h.objs.size])[j]? = none := List.getElem?_eq_none (by rw [List.length_append, List.length_singleton]; omega)
        rw [none] at hj; cases hj
end
theorem zip_no_len : typeLookup (.type "zip") "__len__" = pure none := am_miss_of_fast (by decide +kernel)
theorem zip_no_hint : typeLookup (.type "zip") "__length_hint__" = pure none := am_miss_of_fast (by decide +kernel)
section
variable {prog : Program} {w : World} {A : Around} {E : Value → Shared → Prop} {s : Shared}
theorem zip_hint {r : Addr} (hT : s.TypeIs (.ref r) "zip") {Q : Bool → Shared → Prop} (h : Q true s) : wpAny (model prog w) A (Builtin.List.listLengthHint (.ref r)) Q E s := by
  unfold Builtin.List.listLengthHint
  refine wpAny_bind (wpAny_specialOf hT zip_no_len ?_)
  show wpAny _ _ (specialOf (.ref r) "__length_hint__" >>= _) _ _ _
  refine wpAny_bind (wpAny_specialOf hT zip_no_hint ?_)
  exact wpAny_pure h
theorem zl_extend {z TI TO i1 i2 l1 l2 S : Addr} {xs ys : Array Value} {n : Nat} {R : Result → Shared → Prop} (hh : A.handled = none) (D : ZipApart z TI TO i1 i2 l1 l2) (nz : z < S) (nTI : TI < S) (nTO : TO < S) (n1 : i1 < S) (n2 : i2 < S) (m1 : l1 < S) (m2 : l2 < S) (hn : n = min xs.size ys.size) (hz : n ≤ sizeLine) (res : Value) (c₀ : Nat)
    (hS : s.heap.get? S = some { cls := .type "list", data := .seq #[] c₀ }) (iz : IsZip s.heap z TI TO .none) (st : ZSt z TI TO i1 i2 l1 l2 S xs ys 0 s.heap)
    (hR : ∀ h' tk acc c as, (∀ b o, b ≠ S → b ≠ z → b ≠ TO → b ≠ i1 → b ≠ i2 → s.heap.get? b = some o → h'.get? b = some o) → h'.get? S = some { cls := .type "list", dict := none, data := .seq acc c, slots := #[] } → as.length = n → ZG xs ys S h' as →
      acc.toList = as.map Value.ref → R (.ok (.ret res)) { s with heap := h', toks := tk }) :
    wpAny (model prog w) A.in1 (Builtin.List.listExtendWith (.ref S) (.ref z) res)
      (fun fin s' => match fin with | .done f => R (.ok f) s' | .again c' => c'.quiet = true ∧ codeAny (model prog w) A c' R s') (fun e s' => R (.error e) s') s := by
  have ty : s.TypeIs (.ref z) "zip" := ⟨_, iz, rfl⟩
  have key : ∀ (h : Heap) (c₁ tk : Nat), (∀ b o, b ≠ S → s.heap.get? b = some o → h.get? b = some o) → h.get? S = some { cls := .type "list", data := .seq #[] c₁ } →
      codeAny (model prog w) A (.builtin "list.extend.loop" ⟨[.ref S, .ref z, res], []⟩) R { s with heap := h, toks := tk } := by
    intro h c₁ tk hk hS₁
    exact zl_loop (s := s) (h₁ := s.heap) hh D nz nTI nTO n1 n2 m1 m2 hn hz res hR n 0 h tk c₁ #[] [] (Nat.sub_zero _) (Nat.zero_le _)
      (st.keep hk (Nat.ne_of_lt nz) (Nat.ne_of_lt nTI) (Nat.ne_of_lt nTO) (Nat.ne_of_lt n1) (Nat.ne_of_lt n2) (Nat.ne_of_lt m1) (Nat.ne_of_lt m2)) (fun b o c0 _ _ _ _ e => hk b o c0 e) hS₁ rfl rfl
      ⟨List.Pairwise.nil, (fun _ ha => nomatch ha), (fun j a hj => by simp at hj)⟩
  unfold Builtin.List.listExtendWith
  refine wpAny_bind (wpAny_typeOf (T := "zip") ty ?_)
  have q1 : Builtin.List.listSameRef (.ref S) (.ref z) = false := by simp [Builtin.List.listSameRef, Nat.ne_of_gt nz]
  have q2 : (Value.type "zip" == Value.type "list") = false := by decide
  have q3 : (Value.type "zip" == Value.type "tuple") = false := by decide
  simp only [q1, q2, q3, Bool.or_false, Bool.false_eq_true, if_false]
  refine wpAny_bind (wpAny_pyIter_zip iz ?_)
  refine wpAny_bind (wpAny_holding (zip_hint ty ?_))
  refine wpAny_ite_split (fun _ => ?_) (fun _ => wpAny_pure ⟨plainId_quiet PySem.F.plain_extend_loop _, key _ c₀ _ (fun b o _ e => e) hS⟩)
  refine wpAny_bind (wpAny_rule ?_)
  refine wpAny_bind ?_
  show wpAny _ _ (updateSeq S (·.push .none) >>= fun _ => updateSeq S (·.pop)) _ _ _
  refine wpAny_bind (wpAny_updateSeq hS rfl ?_)
  have hS₂ := Heap.get?_update_self (Obj.mapSeq (·.push Value.none)) hS rfl
  refine wpAny_updateSeq (hz := by seq_fits) hS₂ rfl ?_
  have hS₃ := Heap.get?_update_self (Obj.mapSeq (·.pop)) hS₂ rfl
  refine wpAny_pure ⟨plainId_quiet PySem.F.plain_extend_loop _, key _ _ _ (fun b o hb e => ?_) hS₃⟩
  exact (Heap.get?_update_other _ _ (Ne.symm hb)).trans ((Heap.get?_update_other _ _ (Ne.symm hb)).trans e)
theorem zl_init {z TI TO i1 i2 l1 l2 S : Addr} {xs ys : Array Value} {n : Nat} {R : Result → Shared → Prop} (hh : A.handled = none) (D : ZipApart z TI TO i1 i2 l1 l2) (nz : z < S) (nTI : TI < S) (nTO : TO < S) (n1 : i1 < S) (n2 : i2 < S) (m1 : l1 < S) (m2 : l2 < S) (hn : n = min xs.size ys.size) (hz : n ≤ sizeLine)
    (hS : s.heap.get? S = some { cls := .type "list", data := .seq #[] }) (iz : IsZip s.heap z TI TO .none) (st : ZSt z TI TO i1 i2 l1 l2 S xs ys 0 s.heap)
    (hR : ∀ h' tk acc c as, (∀ b o, b ≠ S → b ≠ z → b ≠ TO → b ≠ i1 → b ≠ i2 → s.heap.get? b = some o → h'.get? b = some o) → h'.get? S = some { cls := .type "list", dict := none, data := .seq acc c, slots := #[] } → as.length = n → ZG xs ys S h' as →
      acc.toList = as.map Value.ref → R (.ok (.ret .none)) { s with heap := h', toks := tk }) :
    wpAny (model prog w) A.in1 (Builtin.«list.__init__» ⟨[.ref S, .ref z], []⟩)
      (fun fin s' => match fin with | .done f => R (.ok f) s' | .again c' => c'.quiet = true ∧ codeAny (model prog w) A c' R s') (fun e s' => R (.error e) s') s := by
  show wpAny _ _ (do let old ← Builtin.List.listItems (.ref S); Builtin.List.listUpdate (.ref S) (fun _ => #[]); letGo old.toList.reverse; Builtin.List.listExtendWith (.ref S) (.ref z) .none) _ _ s
  refine wpAny_bind ?_
  unfold Builtin.List.listItems
  refine wpAny_bind (wpAny_seqItems hS rfl (wpAny_pure ?_))
  show wpAny _ _ (updateSeq S (fun _ => #[]) >>= fun _ => letGo (#[] : Array Value).toList.reverse >>= fun _ => Builtin.List.listExtendWith (.ref S) (.ref z) .none) _ _ s
  refine wpAny_bind (wpAny_updateSeq hS rfl ?_)
  have hS₂ := Heap.get?_update_self (Obj.mapSeq (fun _ => (#[] : Array Value))) hS rfl
  have oth : ∀ b o, b ≠ S → s.heap.get? b = some o → (s.heap.update S (Obj.mapSeq (fun _ => (#[] : Array Value)))).get? b = some o := fun b o hb e => (Heap.get?_update_other _ _ (Ne.symm hb)).trans e
  refine wpAny_bind (wpAny_letGo ?_)
  refine zl_extend (s := { s with heap := s.heap.update S (Obj.mapSeq (fun _ => (#[] : Array Value))) }) hh D nz nTI nTO n1 n2 m1 m2 hn hz .none _ hS₂ (oth _ _ (Nat.ne_of_lt nz) iz)
    (st.keep oth (Nat.ne_of_lt nz) (Nat.ne_of_lt nTI) (Nat.ne_of_lt nTO) (Nat.ne_of_lt n1) (Nat.ne_of_lt n2) (Nat.ne_of_lt m1) (Nat.ne_of_lt m2)) fun h' tk acc c as hk hS' hl hG hacc => ?_
  exact hR h' tk acc c as (fun b o c0 c1 c2 c3 c4 e => hk b o c0 c1 c2 c3 c4 (oth b o c0 e)) hS' hl hG hacc
theorem zl_call {z TI TO i1 i2 l1 l2 : Addr} {xs ys : Array Value} {n : Nat} {Q : Value → Shared → Prop} (hh : A.handled = none) (D : ZipApart z TI TO i1 i2 l1 l2) (hn : n = min xs.size ys.size) (hz : n ≤ sizeLine)
    (iz : IsZip s.heap z TI TO .none) (pTI : IsPair s.heap TI (.ref i1) (.ref i2)) (pTO : IsPair s.heap TO .none .none) (t1 : s.heap.IsTupleIter i1 l1 0) (t2 : s.heap.IsTupleIter i2 l2 0) (a1 : s.heap.IsTuple l1 xs) (a2 : s.heap.IsTuple l2 ys)
    (hQ : ∀ h' tk acc c as, (∀ b o, b ≠ z → b ≠ TO → b ≠ i1 → b ≠ i2 → s.heap.get? b = some o → h'.get? b = some o) → h'.get? s.heap.objs.size = some { cls := .type "list", dict := none, data := .seq acc c, slots := #[] } → as.length = n → ZG xs ys s.heap.objs.size h' as →
      acc.toList = as.map Value.ref → Q (.ref s.heap.objs.size) { s with heap := h', toks := tk }) :
    wpAny (model prog w) A (call (.type "list") [.ref z]) Q E s := by
  refine callType_codes (Q₁ := fun obj s₁ => obj = .ref s.heap.objs.size ∧ s₁ = { s with heap := s.heap.push { cls := .type "list", data := .seq #[] } }) PySem.F.called_list (PySem.F.typeCall_list_1 _) PySem.F.entry_list_init
    (code_list_new _ ⟨rfl, rfl⟩) fun obj s₁ h₁ => ?_
  obtain ⟨rfl, rfl⟩ := h₁
  have hS : (s.heap.push { cls := .type "list", data := .seq #[] }).get? s.heap.objs.size = some { cls := .type "list", data := .seq #[] } := Heap.get?_push_size _ rfl
  have kp : ∀ b o, s.heap.get? b = some o → (s.heap.push { cls := .type "list", data := .seq #[] }).get? b = some o := fun b o e => Heap.get?_push_of_some _ e
  have g1 : i1 < s.heap.objs.size := by obtain ⟨_, e, _⟩ := t1; exact Heap.lt_size e
  have g2 : i2 < s.heap.objs.size := by obtain ⟨_, e, _⟩ := t2; exact Heap.lt_size e
  have g3 : l1 < s.heap.objs.size := by obtain ⟨_, e, _⟩ := a1; exact Heap.lt_size e
  have g4 : l2 < s.heap.objs.size := by obtain ⟨_, e, _⟩ := a2; exact Heap.lt_size e
  refine ⟨⟨_, hS, rfl⟩, PySem.F.args_list_init_2 _ _, zl_init (s := { s with heap := s.heap.push { cls := .type "list", data := .seq #[] } }) (A := A.in1) hh D (Heap.lt_size iz) (Heap.lt_size pTI) (Heap.lt_size pTO) g1 g2 g3 g4 hn hz hS (kp _ _ iz)
    ⟨kp _ _ pTI, t1.at (kp _), t2.at (kp _), a1.at (kp _), a2.at (kp _), .inl ⟨kp _ _ iz, _, _, kp _ _ pTO⟩⟩ fun h' tk acc c as hk hS' hl hG hacc => ?_⟩
  exact ⟨rfl, hQ h' tk acc c as (fun b o c1 c2 c3 c4 e => hk b o (Nat.ne_of_lt (Heap.lt_size e)) c1 c2 c3 c4 (kp b o e)) hS' hl hG hacc⟩
end
end MI
namespace MI
open PySem PySem.Spec PyProof.Rows L2
/-- the pairs tracked at their places -/
def putP : Hp → List Addr → List (V × V) → Hp
  | H, a :: as, p :: ps => putP (upd H a (.tup [p.1, p.2])) as ps
  | H, _, _ => H
theorem putP_off {b : Addr} : ∀ (as : List Addr) (ps : List (V × V)) (H : Hp), b ∉ as → putP H as ps b = H b
  | [], _, _, _ => rfl
  | _ :: _, [], _, _ => rfl
  | a :: as, p :: ps, H, h => by
    have h1 : b ∉ as := fun q => h (List.mem_cons_of_mem _ q)
    have h2 : b ≠ a := fun q => h (by rw [q]; exact List.mem_cons_self)
    show putP (upd H a (.tup [p.1, p.2])) as ps b = H b
    rw [putP_off as ps _ h1, upd_ne h2]
theorem putP_at : ∀ (as : List Addr) (ps : List (V × V)) (H : Hp), as.length = ps.length → as.Nodup → ∀ (j : Nat) (a : Addr), as[j]? = some a → ∃ p : V × V, ps[j]? = some p ∧ putP H as ps a = some (.tup [p.1, p.2])
  | [], _, _, _, _, j, a, e => by simp at e
  | a :: as, [], _, h, _, _, _, _ => by cases h
  | a :: as, p :: ps, H, h, hn, 0, b, e => by
    have e : a = b := by simpa using e
    subst e
    refine ⟨p, rfl, ?_⟩
    show putP (upd H a (.tup [p.1, p.2])) as ps a = _
    rw [putP_off as ps _ (List.nodup_cons.mp hn).1, upd_same]
  | a :: as, p :: ps, H, h, hn, j + 1, b, e => by
    obtain ⟨q, h1, h2⟩ := putP_at as ps (upd H a (.tup [p.1, p.2])) (Nat.succ.inj h) (List.nodup_cons.mp hn).2 j b (by simpa using e)
    exact ⟨q, by simpa using h1, h2⟩
section
variable {X : Cx}
theorem zip_laid {pins : List (Addr × Obj)} {σ : L2.St} {H : Hp} {s : Shared} {h' : Heap} {tk : Nat} {S : Addr} {ps : List (V × V)} {acc : Array Value} {c : Nat} {as : List Addr} (I : Inv X pins σ H s) (hz : ps.length ≤ sizeLine) (hSl : s.heap.objs.size ≤ S)
    (hk : ∀ b o, s.heap.get? b = some o → h'.get? b = some o) (hS : h'.get? S = some { cls := .type "list", dict := none, data := .seq acc c, slots := #[] }) (hl : as.length = ps.length) (rise : as.Pairwise (· < ·)) (above : ∀ a ∈ as, S < a)
    (hp : ∀ (j : Nat) (a : Addr), as[j]? = some a → ∃ p u1 u2, ps[j]? = some p ∧ RelV p.1 u1 ∧ RelV p.2 u2 ∧ h'.get? a = some { cls := .type "tuple", data := .seq #[u1, u2] }) (hacc : acc.toList = as.map Value.ref) :
    ∃ H' : Hp, (∀ b, b ≠ S → b ∉ as → H' b = H b) ∧ H S = none ∧ (∀ t ∈ as, H t = none) ∧ S ∉ as ∧ H' S = some (.lst (as.map V.ref)) ∧ (∀ (j : Nat) (a : Addr), as[j]? = some a → ∃ p, ps[j]? = some p ∧ H' a = some (.tup [p.1, p.2])) ∧ Inv X pins σ H' { s with heap := h', toks := tk } := by
  have hSn : S ∉ as := fun q => Nat.lt_irrefl _ (above _ q)
  have nd : as.Nodup := List.Pairwise.imp (fun {a b} (h : a < b) => Nat.ne_of_lt h) rise
  have new : ∀ t ∈ as, H t = none := fun t ht => I.hok.fresh (Nat.le_trans hSl (Nat.le_of_lt (above t ht)))
  have newS : H S = none := I.hok.fresh hSl
  have atP := putP_at as ps (upd H S (.lst (as.map V.ref))) hl nd
  have off : ∀ b, b ≠ S → b ∉ as → putP (upd H S (.lst (as.map V.ref))) as ps b = H b := fun b h1 h2 => by rw [putP_off as ps _ h2, upd_ne h1]
  have low : ∀ b o, s.heap.get? b = some o → b ∉ as ∧ b ≠ S := fun b o e => by
    have hb := Heap.lt_size e
    exact ⟨fun q => Nat.lt_irrefl b (Nat.lt_trans (Nat.lt_of_lt_of_le hb hSl) (above b q)), Nat.ne_of_lt (Nat.lt_of_lt_of_le hb hSl)⟩
  have kp : ∀ b u, H b = some u → (putP (upd H S (.lst (as.map V.ref))) as ps) b = some u := fun b u e => by
    rw [off b (fun q => by rw [q, newS] at e; cases e) (fun q => by rw [new b q] at e; cases e)]
    exact e
  have eS : putP (upd H S (.lst (as.map V.ref))) as ps S = some (.lst (as.map V.ref)) := by rw [putP_off as ps _ hSn, upd_same]
  refine ⟨putP (upd H S (.lst (as.map V.ref))) as ps, off, newS, new, hSn, eS, atP, ?_⟩
  refine I.call' (ch := []) rfl ⟨fun b o q _ _ _ => hk b o q, fun b o q _ _ _ => ⟨o.slots, hk b o q⟩, fun b o q n _ => ?_, fun b o q _ => ⟨o, hk b o q⟩, fun b xs q => kp b _ q, fun b o u q => kp b _ q, fun b ps q => ⟨#[], by rw [kp b _ q]; simp⟩⟩ (fun b u q => ?_) I.bare fun b z => by simp at z
  · obtain ⟨z1, z2⟩ := low b o q
    rw [off b z2 z1]
    exact n
  · by_cases hb : b ∈ as
    · obtain ⟨j, hj⟩ := List.mem_iff_getElem?.mp hb
      obtain ⟨p, e2, e3⟩ := atP j b hj
      rw [e3] at q
      cases q
      obtain ⟨p', u1, u2, f1, f2, f3, f4⟩ := hp j b hj
      rw [e2] at f1
      cases f1
      exact ⟨by show 2 ≤ sizeLine; decide, [u1, u2], .cons f2 (.cons f3 .nil), ⟨_, f4, rfl, _, rfl⟩⟩
    · by_cases hb2 : b = S
      · rw [hb2] at q ⊢
        rw [eS] at q
        cases q
        refine ⟨by rw [List.length_map]; omega, acc.toList, c, by rw [hacc]; exact LiI.vals_refs as, ?_⟩
        rw [Array.toArray_toList]
        exact hS
      · rw [off b hb2 hb] at q
        exact (I.hok b u q).stay (fun d v _ y => hk d v y) (fun d y => kp d _ y) fun d xs y => kp d _ y
/-- list(zip(a, b)), tuples -/
def rZipL (K : PySem.W.Frag) : List V → Hp → VK → Prop := fun vs H Q => ∃ (a b : Addr) (xs ys : List V), vs = [.ref a, .ref b] ∧ SqT K H a xs ∧ SqT K H b ys ∧
  ∀ (H' : Hp) (p : Addr) (ts : List Addr), (∀ b, b ≠ p → b ∉ ts → H' b = H b) → H p = none → (∀ t ∈ ts, H t = none) → p ∉ ts → H' p = some (.lst (ts.map V.ref)) → ts.length = min xs.length ys.length → ts.Nodup →
    (∀ (j : Nat) (t : Addr), ts[j]? = some t → ∃ x y, xs[j]? = some x ∧ ys[j]? = some y ∧ H' t = some (.tup [x, y])) → Q (.ref p) H'
theorem vals_back {xs : List V} {us : List Value} (r : Vals xs us) {j : Nat} {u : Value} (h : us[j]? = some u) : ∃ v, xs[j]? = some v ∧ RelV v u := by
  have hj : j < xs.length := by
    have := (List.getElem?_eq_some_iff.mp h).1
    rw [r.length]
    exact this
  obtain ⟨u', h1, h2⟩ := r.get (List.getElem?_eq_getElem hj)
  rw [h] at h1
  cases h1
  exact ⟨_, List.getElem?_eq_getElem hj, h2⟩
theorem zip_get {xs ys : List V} {j : Nat} {p : V × V} (h : (xs.zip ys)[j]? = some p) : xs[j]? = some p.1 ∧ ys[j]? = some p.2 := by
  rw [List.getElem?_zip_eq_some] at h
  exact h
theorem pe_listZip {e e2 : Expr} {ta : TA} {p p2 cpos pos : Pos} (hc : X.calm = true) (hg : Gl X "list") (hm : X.mg "list" = none) (hg2 : Gl X "zip") (hm2 : X.mg "zip" = none) (ha : PA X [e, e2] ta)
    (hs : starEach [e, e2] X.env = (false, eval e X.env) :: starEach [e2] X.env) (hpl : (backTo cpos (starEach [e2] X.env)).any (·.1) = false) (hs0 : starEach [.Call (.Name "zip" p2) [e, e2] [] cpos] X.env = (false, eval (.Call (.Name "zip" p2) [e, e2] [] cpos) X.env) :: starEach [] X.env) :
    PE X (.Call (.Name "list" p) [.Call (.Name "zip" p2) [e, e2] [] cpos] [] pos) (fun σ H Q => ta σ H fun vs H1 => rZipL X.K vs H1 Q) := by
  refine ⟨fun pins s σ H Q I h => ?_⟩
  refine wpAny_Call_Name_kw (ld_blt I hg hm boot_list ?_)
  refine PyProof.Rows.callWith_type1 ?_ hs0 rfl
  rw [hs0]
  show wpAny _ _ (spliced ((false, eval (.Call (.Name "zip" p2) [e, e2] [] cpos) X.env) :: backTo pos (starEach [] X.env))) _ _ s
  refine Calls.spliced_cons ?_
  refine Call_ (ld_blt I hg2 hm2 PyProof.Rows.boot_zip (PyProof.Rows.callWith_type1 (thn (ha.run cpos pins s σ H _ I h) fun us s1 ⟨vs, H1, I1, r1, q1⟩ => ?_) hs hpl))
  obtain ⟨a, b, xs, ys, ex, hqx, hqy, q⟩ := q1
  subst ex
  cases r1 with
  | cons r rr =>
    cases rr with
    | cons r' rr =>
      cases rr
      cases r
      cases r'
      obtain ⟨its, rv, p1, z1⟩ := I1.tuple hqx
      obtain ⟨its2, rv2, p2', z2⟩ := I1.tuple hqy
      obtain ⟨o1, ho1, _⟩ := id p1
      obtain ⟨o2, ho2, _⟩ := id p2'
      have T1 : s1.heap.IsTuple a its.toArray := p1
      have T2 : s1.heap.IsTuple b its2.toArray := p2'
      have l1 := rv.length
      have l2 := rv2.length
      refine RZ.call_zipT T1 T2 fun h1 hz hTI hTO i1 i2 hsz hk => ?_
      refine Calls.spliced_nil ?_
      have D := PySem.W.ktu_apart s1.heap.objs.size a b (Heap.lt_size ho1) (Heap.lt_size ho2)
      refine zl_call (s := { s1 with heap := h1 }) (xs := its.toArray) (ys := its2.toArray) (n := min xs.length ys.length) (I1.ok.hd hc) D (by simp [l1, l2]) (Nat.le_trans (Nat.min_le_left _ _) (by simpa using z1)) hz hTI hTO i1 i2 (T1.at (hk _)) (T2.at (hk _)) fun h' tk acc c as hk' hS hl G hacc => ?_
      have hk2 : ∀ b o, s1.heap.get? b = some o → h'.get? b = some o := fun b o e => by
        have hb := Heap.lt_size e
        exact hk' b o (Nat.ne_of_lt (Nat.lt_of_lt_of_le hb (Nat.le_add_right _ _))) (Nat.ne_of_lt (Nat.lt_of_lt_of_le hb (Nat.le_add_right _ _))) (Nat.ne_of_lt hb) (Nat.ne_of_lt (Nat.lt_of_lt_of_le hb (Nat.le_add_right _ _))) (hk b o e)
      obtain ⟨H', k1, k2, k3, k4, k5, k6, J⟩ := zip_laid (tk := tk) (ps := xs.zip ys) (as := as) I1 (by rw [List.length_zip]; exact Nat.le_trans (Nat.min_le_left _ _) (by simpa using z1)) (S := h1.objs.size) (by rw [hsz]; exact Nat.le_add_right _ _) hk2 hS (by rw [hl, List.length_zip]) G.rise G.above (fun j t hj => by
        obtain ⟨u1, u2, e1, e2, e3⟩ := G.pairs j t hj
        have e1 : its[j]? = some u1 := by simpa using e1
        have e2 : its2[j]? = some u2 := by simpa using e2
        obtain ⟨v1, w1, r1⟩ := vals_back rv e1
        obtain ⟨v2, w2, r2⟩ := vals_back rv2 e2
        exact ⟨(v1, v2), u1, u2, by rw [List.getElem?_zip_eq_some]; exact ⟨w1, w2⟩, r1, r2, e3⟩) hacc
      refine ⟨.ref h1.objs.size, H', J, rfl, q H' h1.objs.size as k1 k2 k3 k4 k5 hl (List.Pairwise.imp (fun {a b} (h : a < b) => Nat.ne_of_lt h) G.rise) fun j t hj => ?_⟩
      obtain ⟨p, e1, e2⟩ := k6 j t hj
      obtain ⟨f1, f2⟩ := zip_get e1
      exact ⟨p.1, p.2, f1, f2, e2⟩
end
variable {K : PySem.W.Frag} {F F' : Fz} {H H' : Hp} {O O' : Fz} {σ : L2.St} {ρ ρ' : Env} {xr : XRep} {W : WX}
theorem StI.grow (S : StI K F H O σ ρ) (off : ∀ b, H b ≠ none → H' b = H b) : StI K F H' O σ ρ := by
  have x : Ext F H F H' := fun a f => ⟨f, off a (S.dom a f)⟩
  have ne : ∀ {a : Addr} {o : HO}, H a = some o → H' a = some o := fun e => (off _ (by rw [e]; simp)).trans e
  refine ⟨S.len, fun i m e => ?_, fun a f => by rw [(x a f).2]; exact S.dom a f, fun a q => ⟨by rw [off a (S.odom a q).1]; exact (S.odom a q).1, (S.odom a q).2⟩, S.sep⟩
  obtain ⟨v, h1, h2⟩ := S.var i m e
  refine ⟨v, h1, ?_⟩
  cases m with
  | sh d => exact Dat.ext x h2
  | ol p' xs =>
    obtain ⟨a, vs, e, oa, ha, hd⟩ := h2
    exact ⟨a, vs, e, oa, ne ha, Dats.ext x hd⟩
  | od p' xs =>
    obtain ⟨a, vs, e, oa, ha, hd, hd2⟩ := h2
    exact ⟨a, vs, e, oa, ne ha, Dats.ext x hd, Dats.ext x hd2⟩
  | ob C fs => exact RepOb.ext x h2
  | sc ns =>
    obtain ⟨a, e, h⟩ := h2
    rcases h with ⟨f, r⟩ | r
    · exact ⟨a, e, .inl ⟨f, Rd.ext (x a f).2 r⟩⟩
    · exact ⟨a, e, .inr r⟩
theorem dats_get : ∀ {vs : List V} {ds : List D}, vs.length = ds.length → (∀ (j : Nat) (v : V) (d : D), vs[j]? = some v → ds[j]? = some d → Dat K F H v d) → Dats K F H vs ds
  | [], [], _, _ => .nil
  | [], _ :: _, h, _ => by cases h
  | _ :: _, [], h, _ => by cases h
  | v :: vs, d :: ds, h, k => .cons (k 0 v d rfl rfl) (dats_get (by simpa using h) fun j w e h1 h2 => k (j + 1) w e (by simpa using h1) (by simpa using h2))
section
variable {X : Cx} {cx : Cxt}
theorem tup_parts {v : V} {ds : List D} (h : Dat K F H v (.tuple ds)) : ∃ a vs, v = .ref a ∧ SqT K H a vs ∧ Dats K F H vs ds := by
  obtain ⟨a, vs, e, h1, h2⟩ := Dat1.tup (.sh h)
  exact ⟨a, vs, e, h1, h2⟩
theorem pd_lzip {a b : Expr} {x y : Ex} {p p2 cpos pos : Pos} (hc : X.calm = true) (hg : Gl X "list") (hm : X.mg "list" = none) (hg2 : Gl X "zip") (hm2 : X.mg "zip" = none) (hs : noStar a = true) (hs2 : noStar b = true) (ha : PD X xr W a (evE cx x)) (hb : PD X xr W b (evE cx y)) :
    PD X xr W (.Call (.Name "list" p) [.Call (.Name "zip" p2) [a, b] [] cpos] [] pos) (evE cx (.lzip x y)) := by
  obtain ⟨ta, pa, ka⟩ := ha.frz.run
  obtain ⟨tb, pb, kb⟩ := hb.frz.run
  refine ⟨_, pe_listZip hc hg hm hg2 hm2 (pa_cons pa (pa_cons pb pa_nil (star_one hs2 _ _)) (star_one hs _ _)) (star_one hs _ _) (star_no (by simp [hs2]) _ _) (star_one rfl _ _), fun F H O σ ρ Q S w => ?_⟩
  simp only [evE] at w
  refine ka F H O σ ρ _ S (WantG.seq .refl (.refl _) w fun d1 ρ1 F1 H1 O1 v1 S1 _ t1 p1 h1 w => ?_)
  refine kb F1 H1 O1 σ ρ1 _ S1 (WantG.seq t1 p1 w fun d2 ρ2 F2 H2 O2 v2 S2 t12 t2 p2 h2 w => ?_)
  obtain ⟨res, he, w⟩ := w.lift
  have h1' := Dat.ext (S1.ext t12) h1
  cases d1 with
  | tuple xs =>
    cases d2 with
    | tuple ys =>
      cases he
      obtain ⟨l1, vs1, rfl, q1, dt1⟩ := tup_parts h1'
      obtain ⟨l2, vs2, rfl, q2, dt2⟩ := tup_parts h2
      refine ⟨l1, l2, vs1, vs2, rfl, q1, q2, fun H' q ts off nq nt qt hq hl nd hp => ?_⟩
      have ext : ∀ b, H2 b ≠ none → H' b = H2 b := fun b hb => off b (fun e => hb (by rw [e]; exact nq)) fun e => hb (nt b e)
      have S3 : StI X.K F2 H' O2 σ ρ2 := S2.grow ext
      have inH : ∀ t ∈ ts, H' t ≠ none ∧ ¬ O2 t := fun t ht => by
        obtain ⟨j, hj⟩ := List.mem_iff_getElem?.mp ht
        obtain ⟨x, y, _, _, e⟩ := hp j t hj
        exact ⟨by rw [e]; simp, fun o => (S2.odom t o).1 (nt t ht)⟩
      have S4 : StI X.K (fun b => F2 b ∨ b ∈ ts) H' O2 σ ρ2 := S3.more _ inH
      have x24 : Ext F2 H2 (fun b => F2 b ∨ b ∈ ts) H' := fun c f => ⟨.inl f, ext c (S2.dom c f)⟩
      have t24 : Stp F2 H2 O2 (fun b => F2 b ∨ b ∈ ts) H' O2 := ⟨fun _ h => .inl h, fun c h => by
        rcases h with h | h
        · exact .inl h
        · exact .inr (.inl (nt c h)), fun _ h => .inl h, fun c h _ => ext c h, fun c h => by rw [ext c h]; exact h⟩
      refine w _ _ _ _ S4 (t2.trans t24) p2 ⟨q, ts.map V.ref, rfl, fun f => ?_, fun o => (S2.odom q o).1 nq, t2.none nq, hq, dats_get ?_ fun j v d hv hd => ?_⟩
      · rcases f with f | f
        · exact S2.dom q f nq
        · exact qt f
      · rw [List.length_map, hl, zipD_len, dt1.length, dt2.length]
      · rw [List.getElem?_map, Option.map_eq_some_iff] at hv
        obtain ⟨t, ht, rfl⟩ := hv
        obtain ⟨u1, u2, e1, e2, e3⟩ := hp j t ht
        obtain ⟨da, db, g1, g2, rfl⟩ := zipD_get hd
        obtain ⟨w1, k1, k2⟩ := dt1.get g1
        obtain ⟨w2, k3, k4⟩ := dt2.get g2
        rw [e1] at k1
        rw [e2] at k3
        cases k1
        cases k3
        exact .tup (.inr (List.mem_of_getElem? ht)) e3 (.cons (Dat.ext x24 k2) (.one (Dat.ext x24 k4)))
    | _ => cases he
  | _ => cases he
end
end MI
namespace MI
open PySem PySem.Spec PyProof.Rows L2
variable {K : PySem.W.Frag} {F F' : Fz} {H H' : Hp} {O O' : Fz} {σ σ' : L2.St} {ρ ρ' : Env}
/-! ### slots are set -/
structure PinS (σ : L2.St) (ρ : Env) (σ' : L2.St) (ρ' : Env) : Prop where
  pin : Pin ρ ρ'
  sl : ∀ i m, ρ.get i = some m → m.pinned = true → σ'[i]? = σ[i]?
theorem PinS.refl (σ : L2.St) (ρ : Env) : PinS σ ρ σ ρ := ⟨.refl _, fun _ _ _ _ => rfl⟩
theorem PinS.of (p : Pin ρ ρ') : PinS σ ρ σ ρ' := ⟨p, fun _ _ _ _ => rfl⟩
theorem PinS.trans {σ1 σ2 : L2.St} {ρ1 ρ2 : Env} (a : PinS σ ρ σ1 ρ1) (b : PinS σ1 ρ1 σ2 ρ2) : PinS σ ρ σ2 ρ2 := ⟨a.pin.trans b.pin, fun i m h p => by
  obtain ⟨m1, h1, p1⟩ := a.pin.2 i m h p
  exact (b.sl i m1 h1 p1).trans (a.sl i m h p)⟩
theorem PinS.then {ρ1 : Env} (a : PinS σ ρ σ' ρ') (b : Pin ρ' ρ1) : PinS σ ρ σ' ρ1 := a.trans (.of b)
def SameOut (vs : List Nat) (σ σ' : L2.St) : Prop := σ'.length = σ.length ∧ ∀ i, i ∉ vs → σ'[i]? = σ[i]?
theorem SameOut.refl (vs : List Nat) (σ : L2.St) : SameOut vs σ σ := ⟨rfl, fun _ _ => rfl⟩
theorem SameOut.trans {vs ws : List Nat} {σ1 σ2 : L2.St} (a : SameOut vs σ σ1) (b : SameOut ws σ1 σ2) : SameOut (vs ++ ws) σ σ2 := ⟨b.1.trans a.1, fun i h => by
  simp only [List.mem_append, not_or] at h
  exact (b.2 i h.2).trans (a.2 i h.1)⟩
theorem free_iff {i : Nat} (h : free ρ i = true) : i < ρ.length ∧ ∀ m, ρ.get i = some m → m.pinned = false := by
  unfold free at h
  simp only [Bool.and_eq_true, decide_eq_true_eq] at h
  refine ⟨h.1, fun m e => ?_⟩
  have h2 := h.2
  rw [e] at h2
  simpa using h2
theorem pins_set {i : Nat} {o : Option V} {m : Option M} (h : free ρ i = true) : PinS σ ρ (σ.set i o) (ρ.set i m) := by
  obtain ⟨h1, h2⟩ := free_iff h
  refine ⟨.set fun m' e p => ?_, fun j m' e p => ?_⟩
  · rw [h2 m' e] at p; cases p
  · by_cases q : i = j
    · subst q
      rw [h2 m' e] at p; cases p
    · exact List.getElem?_set_ne q
theorem StI.store {i : Nat} {v : V} {m : M} (S : StI K F H O σ ρ) (hf : free ρ i = true) (rm : RepM K F H O v m) (hs : m.isOwn = true → ∀ j m', j ≠ i → ρ.get j = some m' → m'.isOwn = true → σ[j]? ≠ some (some v)) :
    StI K F H O (σ.set i (some v)) (ρ.set i (some m)) := by
  obtain ⟨h1, h2⟩ := free_iff hf
  have hi : i < σ.length := by rw [S.len]; exact h1
  refine ⟨by rw [List.length_set, List.length_set]; exact S.len, fun j mj ej => ?_, S.dom, S.odom, fun j k b m1 m2 ne e1 e2 o1 o2 q1 q2 => ?_⟩
  · rcases get_set_cases ej with ⟨rfl, q⟩ | ⟨ne, q⟩
    · cases q
      exact ⟨v, List.getElem?_set_self hi, rm⟩
    · obtain ⟨u, g1, g2⟩ := S.var j mj q
      exact ⟨u, (List.getElem?_set_ne ne).trans g1, g2⟩
  · rcases get_set_cases e1 with ⟨rfl, c1⟩ | ⟨n1, c1⟩
    · rcases get_set_cases e2 with ⟨rfl, c2⟩ | ⟨n2, c2⟩
      · exact ne rfl
      · cases c1
        rw [List.getElem?_set_self hi] at q1
        cases q1
        rw [List.getElem?_set_ne n2] at q2
        exact hs o1 k m2 (fun e => n2 e.symm) c2 o2 q2
    · rcases get_set_cases e2 with ⟨rfl, c2⟩ | ⟨n2, c2⟩
      · cases c2
        rw [List.getElem?_set_self hi] at q2
        cases q2
        rw [List.getElem?_set_ne n1] at q1
        exact hs o2 j m1 (fun e => n1 e.symm) c1 o1 q1
      · rw [List.getElem?_set_ne n1] at q1
        rw [List.getElem?_set_ne n2] at q2
        exact S.sep j k b m1 m2 ne c1 c2 o1 o2 q1 q2
theorem gd_some' {α : Type} {b : Bool} {a c : α} (h : gd b a = some c) : b = true ∧ c = a := ⟨(gd_some h).1, (gd_some h).2.symm⟩
/-! ### targets -/
def canG (K : PySem.W.Frag) (tg : Tg) : TG := fun v σ H Q => ∃ F O ρ d ρ', StI K F H O σ ρ ∧ Dat K F H v d ∧ Tg.put tg d ρ = some ρ' ∧ ∀ σ', StI K F H O σ' ρ' → SameOut tg.vars σ σ' → PinS σ ρ σ' ρ' → Q σ' H
def canGs (K : PySem.W.Frag) (tgs : List Tg) : TGs := fun vs σ H Q => ∃ F O ρ ds ρ', StI K F H O σ ρ ∧ Dats K F H vs ds ∧ Tg.puts tgs ds ρ = some ρ' ∧ ∀ σ', StI K F H O σ' ρ' → SameOut (Tg.varss tgs) σ σ' → PinS σ ρ σ' ρ' → Q σ' H
theorem assign_one {e : Expr} (h : noStar e = true) (es : List Expr) (env : PySem.Env) : assignEach (e :: es) env = (false, assign e env) :: assignEach es env := by
  cases e <;> first | rfl | cases h
theorem assign_len : ∀ {es : List Expr}, es.all noStar = true → ∀ env : PySem.Env, (assignEach es env).length = es.length ∧ (assignEach es env).findIdx? (·.1) = none
  | [], _, _ => ⟨rfl, rfl⟩
  | e :: es, h, env => by
    have h' : noStar e = true ∧ es.all noStar = true := by simpa using h
    obtain ⟨h1, h2⟩ := assign_len h'.2 env
    rw [assign_one h'.1]
    exact ⟨by simp [h1], by simp [List.findIdx?_cons, h2]⟩
section
variable {X : Cx} {xr : XRep} {W : WX} {cx : Cxt}
theorem gd_name {i : Nat} {x : Str} {pos : Pos} (hN : X.N.Nodup) (hi : X.N[i]? = some x) (hx : Loc X.env.scope x) (hf : X.fn x = true ∨ X.env.scope.names.lookup x = some .local) : PG X (.Name x pos) (canG X.K (.name i)) := by
  refine ⟨fun pins s σ H v u Q I r h => (pg_name hN hi hx hf).run pins s σ H v u Q I r ?_⟩
  obtain ⟨F, O, ρ, d, ρ', S, hd, hp, q⟩ := h
  simp only [Tg.put] at hp
  obtain ⟨g, rfl⟩ := gd_some' hp
  refine q _ (S.store g (show RepM X.K F H O v (.sh d) from hd) fun z => by cases z) ⟨List.length_set, fun j hj => ?_⟩ (pins_set g)
  have : i ≠ j := fun e => hj (by simp [Tg.vars, e])
  exact List.getElem?_set_ne this
theorem gds_nil : PGs X [] (canGs X.K []) := by
  refine ⟨fun pins s σ H vs us Q I r h => pgs_nil.run pins s σ H vs us Q I r ?_⟩
  obtain ⟨F, O, ρ, ds, ρ', S, hd, hp, q⟩ := h
  cases ds with
  | nil =>
    cases hd
    cases hp
    exact ⟨rfl, q σ S (.refl _ _) (.refl _ _)⟩
  | cons d ds => cases hp
theorem gds_cons {e : Expr} {es : List Expr} {t : Tg} {ts : List Tg} (h1 : PG X e (canG X.K t)) (h2 : PGs X es (canGs X.K ts)) (hs : noStar e = true) : PGs X (e :: es) (canGs X.K (t :: ts)) := by
  refine ⟨fun pins s σ H vs us Q I r h => (pgs_cons h1 h2 (by rw [assign_one hs]; rfl)).run pins s σ H vs us Q I r ?_⟩
  obtain ⟨F, O, ρ, ds, ρ', S, hd, hp, q⟩ := h
  cases ds with
  | nil => cases hp
  | cons d ds =>
    cases hd with
    | cons d1 d2 =>
      simp only [Tg.puts, Option.bind_eq_some_iff] at hp
      obtain ⟨ρ1, p1, p2⟩ := hp
      refine ⟨_, _, rfl, F, O, ρ, d, ρ1, S, d1, p1, fun σ1 S1 o1 n1 => ⟨F, O, ρ1, ds, ρ', S1, d2, p2, fun σ2 S2 o2 n2 => ?_⟩⟩
      exact q σ2 S2 (o1.trans o2) (n1.trans n2)
theorem gd_tup {es : List Expr} {k : Nat} {pos : Pos} {ts : List Tg} (hc : X.calm = true) (h : PGs X es (canGs X.K ts)) (hs : es.all noStar = true) (hl : es.length = ts.length) : PG X (.Tuple es k pos) (canG X.K (.tup ts)) := by
  obtain ⟨e1, e2⟩ := assign_len hs X.env
  refine ⟨fun pins s σ H v u Q I r h' => ?_⟩
  obtain ⟨F, O, ρ, d, ρ', S, hd, hp, q⟩ := h'
  have len : ∀ {ts : List Tg} {ds : List D} {ρ ρ' : Env}, Tg.puts ts ds ρ = some ρ' → ts.length = ds.length := by
    intro ts
    induction ts with
    | nil => intro ds ρ ρ' h; cases ds <;> first | rfl | cases h
    | cons t ts ih =>
      intro ds ρ ρ' h
      cases ds with
      | nil => cases h
      | cons d ds =>
        simp only [Tg.puts, Option.bind_eq_some_iff] at h
        obtain ⟨_, _, h⟩ := h
        simp [ih h]
  have hd1 : Dat1 X.K F H v d := .sh hd
  cases d <;> try (simp only [Tg.put] at hp; cases hp; done)
  · obtain ⟨a, vs, rfl, ha, da⟩ := hd1.lst
    simp only [Tg.put] at hp
    exact (pg_lst (n := vs.length) hc h (by rw [e1, hl, len hp, da.length]) e2).run pins s σ H _ u Q I r ⟨a, vs, rfl, SqL.of ha, rfl, F, O, ρ, _, ρ', S, da, hp, fun σ' S' o' n' => q σ' S' (by simpa [Tg.vars] using o') n'⟩
  · obtain ⟨a, vs, rfl, ha, da⟩ := hd1.tup
    simp only [Tg.put] at hp
    exact (pg_tup (n := vs.length) hc h (by rw [e1, hl, len hp, da.length]) e2).run pins s σ H _ u Q I r ⟨a, vs, rfl, ha, rfl, F, O, ρ, _, ρ', S, da, hp, fun σ' S' o' n' => q σ' S' (by simpa [Tg.vars] using o') n'⟩
end
/-! ### forgotten, brought back -/
theorem wipeE_len (ρ : Env) : ∀ vs, (wipeE ρ vs).length = ρ.length
  | [] => rfl
  | v :: vs => by simp [wipeE, wipeE_len ρ vs]
theorem backE_len (ρ ρ0 : Env) : ∀ vs, (backE ρ ρ0 vs).length = ρ.length
  | [] => rfl
  | v :: vs => by simp [backE, backE_len ρ ρ0 vs]
theorem wipeE_out {i : Nat} : ∀ {vs : List Nat}, i ∉ vs → Env.get (wipeE ρ vs) i = ρ.get i
  | [], _ => rfl
  | v :: vs, h => by
    simp only [List.mem_cons, not_or] at h
    rw [wipeE, get_set_ne (fun e => h.1 e.symm)]
    exact wipeE_out h.2
theorem wipeE_some {i : Nat} {m : M} : ∀ {vs : List Nat}, Env.get (wipeE ρ vs) i = some m → i ∉ vs ∧ ρ.get i = some m
  | [], h => ⟨by simp, h⟩
  | v :: vs, h => by
    rcases get_set_cases (show Env.get ((wipeE ρ vs).set v none) i = some m from h) with ⟨_, q⟩ | ⟨ne, q⟩
    · cases q
    · obtain ⟨h1, h2⟩ := wipeE_some q
      exact ⟨by simp only [List.mem_cons, not_or]; exact ⟨fun e => ne e.symm, h1⟩, h2⟩
theorem backE_out {ρ0 : Env} {i : Nat} : ∀ {vs : List Nat}, i ∉ vs → Env.get (backE ρ ρ0 vs) i = ρ.get i
  | [], _ => rfl
  | v :: vs, h => by
    simp only [List.mem_cons, not_or] at h
    rw [backE, get_set_ne (fun e => h.1 e.symm)]
    exact backE_out h.2
theorem backE_in {ρ0 : Env} {i : Nat} : ∀ {vs : List Nat}, i ∈ vs → (∀ v ∈ vs, v < ρ.length) → Env.get (backE ρ ρ0 vs) i = ρ0.get i
  | v :: vs, h, hl => by
    by_cases e : v = i
    · subst e
      rw [backE, get_set_self]
      rw [backE_len]
      exact hl v List.mem_cons_self
    · rw [backE, get_set_ne e]
      rcases List.mem_cons.mp h with q | q
      · exact absurd q.symm e
      · exact backE_in q fun w hw => hl w (List.mem_cons_of_mem _ hw)
theorem StI.wipe (S : StI K F H O σ ρ) (vs : List Nat) : StI K F H O (L2.wipe σ vs) (wipeE ρ vs) := by
  refine ⟨by rw [wipe_length, wipeE_len]; exact S.len, fun i m e => ?_, S.dom, S.odom, fun i j a m1 m2 ne e1 e2 o1 o2 q1 q2 => ?_⟩
  · obtain ⟨h1, h2⟩ := wipeE_some e
    obtain ⟨v, g1, g2⟩ := S.var i m h2
    exact ⟨v, (wipe_out h1).trans g1, g2⟩
  · obtain ⟨a1, b1⟩ := wipeE_some e1
    obtain ⟨a2, b2⟩ := wipeE_some e2
    exact S.sep i j a m1 m2 ne b1 b2 o1 o2 ((wipe_out a1).symm.trans q1) ((wipe_out a2).symm.trans q2)
theorem same_wipe : ∀ {vs : List Nat}, SameOut vs σ σ' → L2.wipe σ' vs = L2.wipe σ vs := by
  intro vs h
  apply List.ext_getElem?
  intro i
  by_cases hi : i ∈ vs
  · have key : ∀ (τ : L2.St) (ws : List Nat), i ∈ ws → (L2.wipe τ ws)[i]? = if i < τ.length then some none else none := by
      intro τ ws
      induction ws with
      | nil => intro h; cases h
      | cons w ws ih =>
        intro h
        unfold L2.wipe
        by_cases e : w = i
        · subst e
          rw [List.getElem?_set]
          simp [wipe_length]
        · rw [List.getElem?_set_ne e]
          rcases List.mem_cons.mp h with q | q
          · exact absurd q.symm e
          · exact ih q
    rw [key σ' vs hi, key σ vs hi, h.1]
  · rw [wipe_out hi, wipe_out hi]
    exact h.2 i hi
end MI
namespace MI
open PySem PySem.Spec PyProof.Rows L2
variable {K : PySem.W.Frag} {F F' : Fz} {H H' : Hp} {O O' : Fz} {σ σ' : L2.St} {ρ ρ' : Env}
/-- nothing may be raised -/
def W0 : WX := fun _ _ _ _ => False
def condEv (cx : Cxt) (c : Option Ex) (ρ : Env) : Out Bool := match c with
  | none => .ok true ρ
  | some c => evT cx c ρ
def turnEv (cx : Cxt) (elt : Ex) (tg : Tg) (c : Option Ex) (d : D) (ρ : Env) : Out (Option D) := match Tg.put tg d (wipeE ρ tg.vars) with
  | none => .no
  | some ρ => (condEv cx c ρ).bind fun k ρ => if k then (((evE cx elt ρ).bind MI.frz).bind fun d ρ => .ok (some d) ρ) else .ok none ρ
def keepOk (vs : List Nat) (ρ : Env) : Bool := vs.all fun v => v < ρ.length && match ρ.get v with | some m => !m.isOwn | none => true
theorem evE_comp (cx : Cxt) (elt : Ex) (tg : Tg) (it : It) (c : Option Ex) (ρ : Env) : evE cx (.comp elt tg it c) ρ = (evI cx it ρ).bind fun items ρ1 =>
    if keepOk tg.vars ρ1 then (match compL (turnEv cx elt tg c) items [] ρ1 with
      | .ok acc ρ2 => .ok (.new acc) (backE ρ2 ρ1 tg.vars)
      | _ => .no) else .no := by
  rw [evE]
  rfl
structure PDc (X : Cx) (xr : XRep) (W : WX) (ifs : List Expr) (ev : Env → Out Bool) : Prop where
  run : PTs X ifs (canT X.K xr W ev)
section
variable {X : Cx} {xr : XRep} {W : WX} {cx : Cxt}
theorem pdc_nil : PDc X xr W [] (condEv cx none) := ⟨⟨fun pins s σ H Q I ⟨F, O, ρ, S, w⟩ => pts_nil.run pins s σ H Q I (w F H O true S .refl (.refl _) rfl)⟩⟩
theorem pdc_one {c : Expr} {x : Ex} (h : PDt X xr W c (evT cx x)) : PDc X xr W [c] (condEv cx (some x)) := ⟨⟨fun pins s σ H Q I w => (pts_one h.can).run pins s σ H Q I w⟩⟩
/-- at a turn -/
structure LcAt (K : PySem.W.Frag) (F1 : Fz) (H1 : Hp) (O1 : Fz) (σ : L2.St) (ρ1 : Env) (vs : List Nat) (A : Addr) (acc : List D) (ρi : Env) (F : Fz) (H : Hp) (O : Fz) : Prop where
  st : StI K F H O (L2.wipe σ vs) (wipeE ρi vs)
  stp : Stp F1 H1 O1 F H O
  pin : Pin (wipeE ρ1 vs) (wipeE ρi vs)
  acc : ∃ ws, H A = some (.lst ws) ∧ Dats K F H ws acc
  nf : ¬ F A
  no : ¬ O A
theorem stp_side {F0 O0 : Fz} {H0 : Hp} {a : Addr} {o : HO} (t : Stp F0 H0 O0 F H O) (n : H0 a = none) : Stp F0 H0 O0 F (upd H a o) O where
  fz := t.fz
  fz' := t.fz'
  ow := t.ow
  hp := fun b h no => by rw [upd_ne fun (e : b = a) => h (e ▸ n)]; exact t.hp b h no
  all := fun b h => by rw [upd_ne fun (e : b = a) => h (e ▸ n)]; exact t.all b h
theorem comp_run {wi : TI} {own : List (Str × Nat)} {x : Ex} {tg : Tg} {it : It} {c : Option Ex} (ki : ∀ F H O σ ρ R, StI X.K F H O σ ρ → WantG X.K xr W (fun F' H' O' J ds => WalkD X.K F' H' J ds) σ F H O ρ (evI cx it ρ) R → wi σ H R) (hv : own.map (·.2) = tg.vars) :
    RunE X xr W (tLc wi (canG X.K tg) (canT X.K xr W0 (condEv cx c)) (canE X.K xr W0 (evE cx x)) (own.map (·.2))) (evE cx (.comp x tg it c)) := by
  intro F H O σ ρ Q S w
  rw [evE_comp] at w
  refine ki F H O σ ρ _ S (WantG.seq .refl (.refl _) w fun items ρ1 F1 H1 O1 J S1 _ t1 p1 wd w1 => ?_)
  split at w1
  · rename_i hk
    split at w1
    · rename_i accE ρ2 hL
      intro A hA
      rw [hv]
      have hkeep : ∀ v ∈ tg.vars, v < ρ1.length ∧ ∀ m, ρ1.get v = some m → m.isOwn = false := fun v hv => by
        have := List.all_eq_true.mp hk v hv
        simp only [Bool.and_eq_true, decide_eq_true_eq] at this
        refine ⟨this.1, fun m e => ?_⟩
        have h2 := this.2
        rw [e] at h2
        simpa using h2
      refine ⟨fun i m H' => m = items.length - i ∧ i ≤ items.length ∧ ∃ F' O' acc ρi, LcAt X.K F1 H1 O1 σ ρ1 tg.vars A acc ρi F' H' O' ∧ compL (turnEv cx x tg c) (items.drop i) acc ρi = .ok accE ρ2, ⟨items.length, by simp, Nat.zero_le _, F1, O1, [], ρ1, ⟨(S1.side (S1.nof hA) (S1.noo hA)).wipe _, stp_side .refl hA, .refl _, ⟨[], upd_same, .nil⟩, S1.nof hA, S1.noo hA⟩, by simpa using hL⟩, ?_⟩
      rintro i m H2 ⟨rfl, hi, F2, O2, acc, ρi, L, hcl⟩
      have xt : Ext F1 H1 F2 H2 := S1.ext L.stp
      by_cases hlt : i < items.length
      · refine .inr ⟨wd.go i F2 H2 xt hlt, fun H' => i + 1 ≤ items.length ∧ ∃ F' O' acc ρi, LcAt X.K F1 H1 O1 σ ρ1 tg.vars A acc ρi F' H' O' ∧ compL (turnEv cx x tg c) (items.drop (i + 1)) acc ρi = .ok accE ρ2, fun H' ⟨h1, h2⟩ => ⟨items.length - (i + 1), by omega, rfl, h1, h2⟩, fun y H3 hy => ?_⟩
        have hd : items[i]? = some items[i] := by simp [hlt]
        have nr := wd.yld i items[i] F2 H2 y H3 xt hd hy
        obtain ⟨F3, S3, t3, rr⟩ := nr.use L.st
        rw [List.drop_eq_getElem_cons hlt] at hcl
        unfold compL at hcl
        -- the turn
        cases hp : Tg.put tg items[i] (wipeE ρi tg.vars) with
        | none =>
          have : turnEv cx x tg c items[i] ρi = .no := by unfold turnEv; rw [hp]
          rw [this] at hcl
          cases hcl
        | some ρa =>
          have ht : turnEv cx x tg c items[i] ρi = (condEv cx c ρa).bind fun k ρ => if k then (((evE cx x ρ).bind MI.frz).bind fun d ρ => .ok (some d) ρ) else .ok none ρ := by unfold turnEv; rw [hp]
          rw [ht] at hcl
          refine ⟨F3, O2, _, items[i], ρa, S3, rr, hp, fun σa Sa oa na => ⟨same_wipe oa |>.trans ?_, F3, O2, ρa, Sa, ?_⟩⟩
          · exact same_wipe (vs := tg.vars) (σ := σ) (σ' := L2.wipe σ tg.vars) ⟨wipe_length _ _, fun j hj => wipe_out hj⟩
          · have ww : L2.wipe σa tg.vars = L2.wipe σ tg.vars := (same_wipe oa).trans (same_wipe (vs := tg.vars) (σ := σ) (σ' := L2.wipe σ tg.vars) ⟨wipe_length _ _, fun j hj => wipe_out hj⟩)
            have tA : Stp F1 H1 O1 F3 H3 O2 := L.stp.trans t3
            -- A stays as it is, apart from all
            have apart : ∀ {F' O' : Fz} {H' : Hp}, Stp F3 H3 O2 F' H' O' → ¬ F' A ∧ ¬ O' A ∧ H' A = H2 A := fun {F' O' H'} t => by
              obtain ⟨ws, e, _⟩ := L.acc
              have ne2 : H2 A ≠ none := by rw [e]; simp
              have tt := t3.trans t
              refine ⟨fun f => ?_, fun o => ?_, tt.hp A ne2 L.no⟩
              · rcases tt.fz' A f with q | q | q
                · exact L.nf q
                · exact ne2 q
                · exact L.no q
              · rcases tt.ow A o with q | q
                · exact L.no q
                · exact ne2 q
            have back : ∀ {F' O' : Fz} {H' : Hp} {ρ' : Env}, StI X.K F' H' O' σa ρ' → Stp F3 H3 O2 F' H' O' → Pin ρa ρ' → LcAt X.K F1 H1 O1 σ ρ1 tg.vars A acc ρ' F' H' O' := fun {F' O' H' ρ'} S' t' p' => by
              obtain ⟨n1, n2, e3⟩ := apart t'
              obtain ⟨ws, e, d⟩ := L.acc
              refine ⟨ww ▸ S'.wipe tg.vars, tA.trans t', L.pin.trans ⟨?_, fun j m ej pj => ?_⟩, ⟨ws, e3.trans e, Dats.ext (L.st.ext (t3.trans t')) d⟩, n1, n2⟩
              · rw [wipeE_len, p'.1, na.pin.1]
              · obtain ⟨nj, _⟩ := wipeE_some ej
                obtain ⟨m1, e1, q1⟩ := na.pin.2 j m ej pj
                obtain ⟨m2, e2, q2⟩ := p'.2 j m1 e1 q1
                exact ⟨m2, (wipeE_out nj).trans e2, q2⟩
            cases hk2 : condEv cx c ρa with
            | ex z ρb => rw [hk2] at hcl; cases hcl
            | no => rw [hk2] at hcl; cases hcl
            | ok k ρb =>
              rw [hk2] at hcl
              intro F4 H4 O4 b S4 t4 p4 hb
              subst hb
              cases b with
              | false =>
                rw [if_neg (by decide)]
                exact ⟨hlt, F4, O4, acc, ρb, back S4 t4 p4, hcl⟩
              | true =>
                rw [if_pos rfl]
                refine ⟨F4, O4, ρb, S4, ?_⟩
                cases h5 : evE cx x ρb with
                | ex z ρc => simp only [Out.bind, h5] at hcl; cases hcl
                | no => simp only [Out.bind, h5] at hcl; cases hcl
                | ok r ρc =>
                  cases h6 : MI.frz r ρc with
                  | ex z ρd => exact (frz_ex h6).elim
                  | no => simp only [Out.bind, h5, h6, if_true] at hcl; cases hcl
                  | ok d ρd =>
                    simp only [Out.bind, h5, h6, if_true] at hcl
                    split at hcl
                    · rename_i hz
                      intro F5 H5 O5 v S5 t5 p5 rv
                      obtain ⟨F6, O6, z⟩ := frz_ok S5 rv h6
                      have t6 : Stp F3 H3 O2 F6 H5 O6 := t4.trans (z.stp t5)
                      have Lx := back z.st t6 (p4.trans (p5.trans z.pin))
                      obtain ⟨ws, eA, dA⟩ := Lx.acc
                      refine ⟨ws, eA, by rw [dA.length, ← lim_eq]; exact hz, hlt, F6, O6, acc ++ [d], ρd, ⟨Lx.st.side Lx.nf Lx.no, stp_side Lx.stp hA, Lx.pin, ⟨ws ++ [v], upd_same, ?_⟩, Lx.nf, Lx.no⟩, hcl⟩
                      exact Dats.ext (fun b f => ⟨f, upd_ne fun (e : b = A) => Lx.nf (e ▸ f)⟩) (dA.append (.one z.dat))
                    · cases hcl
      · have e : i = items.length := by omega
        subst e
        refine .inl ⟨wd.stop F2 H2 xt, ?_⟩
        rw [List.drop_length] at hcl
        unfold compL at hcl
        cases hcl
        obtain ⟨ws, eA, dA⟩ := L.acc
        have hb : ∀ j, j ∈ tg.vars → Env.get (backE ρ2 ρ1 tg.vars) j = ρ1.get j := fun j hj => backE_in hj fun v hv => by
          have h1 := (hkeep v hv).1
          have h2 := L.pin.1
          rw [wipeE_len, wipeE_len] at h2
          omega
        have Sb : StI X.K F2 H2 O2 σ (backE ρ2 ρ1 tg.vars) := by
          have own_out : ∀ j m, Env.get (backE ρ2 ρ1 tg.vars) j = some m → m.isOwn = true → j ∉ tg.vars ∧ Env.get (wipeE ρ2 tg.vars) j = some m := fun j m e o => by
            have nj : j ∉ tg.vars := fun hj => by
              rw [hb j hj] at e
              rw [(hkeep j hj).2 m e] at o
              cases o
            exact ⟨nj, by rw [wipeE_out nj, ← backE_out nj]; exact e⟩
          refine ⟨?_, fun j m e => ?_, L.st.dom, L.st.odom, fun j k a m1 m2 ne e1 e2 o1 o2 q1 q2 => ?_⟩
          · have := L.st.len
            rw [wipe_length, wipeE_len] at this
            rw [backE_len]
            exact this
          · by_cases hj : j ∈ tg.vars
            · rw [hb j hj] at e
              obtain ⟨v, g1, g2⟩ := S1.var j m e
              refine ⟨v, g1, ?_⟩
              have no := (hkeep j hj).2 m e
              cases m with
              | sh d => exact Dat.ext xt g2
              | ol p xs => cases no
              | od p xs => cases no
              | ob C fs => exact RepOb.ext xt g2
              | sc ns =>
                obtain ⟨a, e, h⟩ := g2
                rcases h with ⟨f, r⟩ | r
                · exact ⟨a, e, .inl ⟨(xt a f).1, Rd.ext (xt a f).2 r⟩⟩
                · exact ⟨a, e, .inr r⟩
            · rw [backE_out hj, ← wipeE_out hj] at e
              obtain ⟨v, g1, g2⟩ := L.st.var j m e
              exact ⟨v, (wipe_out hj).symm.trans g1, g2⟩
          · obtain ⟨n1, c1⟩ := own_out j m1 e1 o1
            obtain ⟨n2, c2⟩ := own_out k m2 e2 o2
            exact L.st.sep j k a m1 m2 ne c1 c2 o1 o2 ((wipe_out n1).trans q1) ((wipe_out n2).trans q2)
        refine w1 F2 H2 O2 _ Sb (t1.trans L.stp) (p1.trans ⟨?_, fun j m e p => ?_⟩) ⟨A, ws, rfl, L.nf, L.no, t1.none hA, eA, dA⟩
        · have h2 := L.pin.1
          rw [wipeE_len, wipeE_len] at h2
          rw [backE_len]
          exact h2
        · have nj : j ∉ tg.vars := fun hj => by
            have := (hkeep j hj).2 m e
            cases m <;> first | (cases p; done) | (cases this; done)
          obtain ⟨m', e', p'⟩ := L.pin.2 j m ((wipeE_out nj).trans e) p
          exact ⟨m', by rw [backE_out nj, ← wipeE_out nj]; exact e', p'⟩
    · exact w1.elim
  · exact w1.elim
theorem pd_comp {elt tge iter : Expr} {ifs : List Expr} {scope : Scope} {own : List (Str × Nat)} {pos : Pos} {x : Ex} {tg : Tg} {it : It} {c : Option Ex} (hc : X.calm = true) (hN : X.N.Nodup) (hi : PDi X xr W tge iter (evI cx it)) (ok : BlkOk X.N X.env.scope scope own) (hv : own.map (·.2) = tg.vars)
    (hg : ∀ (s : Shared) (H : Hp) (C : Addr) (cl : List (Str × Addr)) (fp : List Addr), PG (X.blk s H scope (compEnvC scope cl C X.env) fp) tge (canG X.K tg))
    (ht : ∀ (s : Shared) (H : Hp) (C : Addr) (cl : List (Str × Addr)) (fp : List Addr), PDc (X.blk s H scope (compEnvC scope cl C X.env) fp) xr W0 ifs (condEv cx c))
    (he : ∀ (s : Shared) (H : Hp) (C : Addr) (cl : List (Str × Addr)) (fp : List Addr), PD (X.blk s H scope (compEnvC scope cl C X.env) fp) xr W0 elt (evE cx x))
    (hs : ∀ x, foldedSetIterable iter X.env x = pure x) : PD X xr W (.ListComp elt [⟨tge, iter, ifs, 0⟩] scope pos) (evE cx (.comp x tg it c)) := by
  obtain ⟨wi, pi, ki⟩ := hi.run
  exact ⟨_, pe_lc (tt := canT X.K xr W0 (condEv cx c)) (te := canE X.K xr W0 (evE cx x)) hc hN pi ok hg (fun s H C cl fp => (ht s H C cl fp).run) (fun s H C cl fp => (he s H C cl fp).can) hs, comp_run ki hv⟩
end
end MI
namespace MI
open PySem PySem.Spec PyProof.Rows L2
variable {K : PySem.W.Frag} {F F' : Fz} {H H' : Hp} {O O' : Fz} {σ σ' : L2.St} {ρ ρ' : Env}
/-! ### what is wanted behind a statement -/
def WantS (K : PySem.W.Frag) (xr : XRep) (W : WX) (F : Fz) (H : Hp) (O : Fz) (σ : L2.St) (ρ : Env) (o : Out Fl) (D : Ends) : Prop := match o with
  | .ok .next ρ' => ∀ F' H' O' σ', StI K F' H' O' σ' ρ' → Stp F H O F' H' O' → PinS σ ρ σ' ρ' → D.nx σ' H'
  | .ok .brk ρ' => ∀ F' H' O' σ', StI K F' H' O' σ' ρ' → Stp F H O F' H' O' → PinS σ ρ σ' ρ' → D.bk σ' H'
  | .ok .cont ρ' => ∀ F' H' O' σ', StI K F' H' O' σ' ρ' → Stp F H O F' H' O' → PinS σ ρ σ' ρ' → D.ct σ' H'
  | .ok (.ret m) ρ' => ∀ F' H' O' σ' v r, StI K F' H' O' σ' ρ' → Stp F H O F' H' O' → PinS σ ρ σ' ρ' → RepR K H F' H' O' σ' v r → retM r ρ' = some m → D.rt v H'
  | .ex x ρ' => ∀ F' H' O' σ' cls d, StI K F' H' O' σ' ρ' → Stp F H O F' H' O' → PinS σ ρ σ' ρ' → xr F' H' cls d x → W cls d σ' H'
  | .no => False
variable {xr : XRep} {W : WX}
theorem WantS.after {o : Out Fl} {D : Ends} (h : WantS K xr W F H O σ ρ o D) (t : Stp F H O F' H' O') (p : PinS σ ρ σ' ρ') : WantS K xr W F' H' O' σ' ρ' o D := by
  cases o with
  | ok a ρ2 =>
    cases a with
    | next => exact fun F2 H2 O2 σ2 S2 t2 p2 => h F2 H2 O2 σ2 S2 (t.trans t2) (p.trans p2)
    | brk => exact fun F2 H2 O2 σ2 S2 t2 p2 => h F2 H2 O2 σ2 S2 (t.trans t2) (p.trans p2)
    | cont => exact fun F2 H2 O2 σ2 S2 t2 p2 => h F2 H2 O2 σ2 S2 (t.trans t2) (p.trans p2)
    | ret m => exact fun F2 H2 O2 σ2 v r S2 t2 p2 rr e => h F2 H2 O2 σ2 v r S2 (t.trans t2) (p.trans p2) (rr.from fun a e => t.none e) e
  | ex x ρ2 => exact fun F2 H2 O2 σ2 c d S2 t2 p2 r => h F2 H2 O2 σ2 c d S2 (t.trans t2) (p.trans p2) r
  | no => exact h
/-- an expression first -/
theorem WantS.seq {α β : Type} {rep : Fz → Hp → Fz → β → α → Prop} {o : Out α} {k : α → Env → Out Fl} {D : Ends} {Q : β → Hp → Prop} {F0 O0 : Fz} {H0 : Hp} {σ0 : L2.St} {ρ0 : Env}
    (t0 : Stp F0 H0 O0 F H O) (p0 : PinS σ0 ρ0 σ ρ) (h : WantS K xr W F0 H0 O0 σ0 ρ0 (o.bind k) D)
    (f : ∀ a ρ1 F1 H1 O1 b, StI K F1 H1 O1 σ ρ1 → Stp F H O F1 H1 O1 → Stp F0 H0 O0 F1 H1 O1 → PinS σ0 ρ0 σ ρ1 → rep F1 H1 O1 b a → WantS K xr W F0 H0 O0 σ0 ρ0 (k a ρ1) D → Q b H1) : WantG K xr W rep σ F H O ρ o Q := by
  cases o with
  | ok a ρ1 => exact fun F1 H1 O1 b S t p r => f a ρ1 F1 H1 O1 b S t (t0.trans t) (p0.then p) r h
  | ex x ρ1 => exact fun F1 H1 O1 c d S t p r => h F1 H1 O1 σ c d S (t0.trans t) (p0.then p) r
  | no => exact h
theorem WantS.lift {α : Type} {o : Option α} {k : α → Env → Out Fl} {ρ1 : Env} {D : Ends} (h : WantS K xr W F H O σ ρ ((Out.lift o ρ1).bind k) D) : ∃ a, o = some a ∧ WantS K xr W F H O σ ρ (k a ρ1) D := by
  cases o with
  | none => exact h.elim
  | some a => exact ⟨a, rfl, h⟩
structure PDst (X : Cx) (xr : XRep) (W : WX) (st : Stmt) (ev : Env → Out Fl) : Prop where
  run : ∃ t : TS, PS X st t ∧ ∀ F H O σ ρ D, StI X.K F H O σ ρ → WantS X.K xr W F H O σ ρ (ev ρ) D → t D σ H
structure PDss (X : Cx) (xr : XRep) (W : WX) (sts : List Stmt) (ev : Env → Out Fl) : Prop where
  run : ∃ t : TS, PSs X sts t ∧ ∀ F H O σ ρ D, StI X.K F H O σ ρ → WantS X.K xr W F H O σ ρ (ev ρ) D → t D σ H
section
variable {X : Cx} {cx : Cxt}
theorem pdss_nil : PDss X xr W [] (evSs cx []) := ⟨_, pss_nil, fun F H O σ ρ D S w => by simp only [evSs] at w; exact w F H O σ S .refl (.refl _ _)⟩
theorem pdss_cons {st : Stmt} {sts : List Stmt} {s : Sx} {ss : List Sx} (h1 : PDst X xr W st (evS cx s)) (h2 : PDss X xr W sts (evSs cx ss)) : PDss X xr W (st :: sts) (evSs cx (s :: ss)) := by
  obtain ⟨t1, p1, k1⟩ := h1.run
  obtain ⟨t2, p2, k2⟩ := h2.run
  refine ⟨_, pss_cons p1 p2, fun F H O σ ρ D S w => ?_⟩
  simp only [evSs] at w
  refine k1 F H O σ ρ _ S ?_
  cases e : evS cx s ρ with
  | ok a ρ1 =>
    rw [e] at w
    cases a with
    | next => exact fun F1 H1 O1 σ1 S1 t p => k2 F1 H1 O1 σ1 ρ1 D S1 (WantS.after (show WantS X.K xr W F H O σ ρ (evSs cx ss ρ1) D from w) t p)
    | brk => exact w
    | cont => exact w
    | ret m => exact w
  | ex x ρ1 => rw [e] at w; exact w
  | no => rw [e] at w; exact w
theorem pds_pass {pos : Pos} : PDst X xr W (.Pass pos) (evS cx .pass) := ⟨_, ps_pass, fun F H O σ ρ D S w => by simp only [evS] at w; exact w F H O σ S .refl (.refl _ _)⟩
theorem pds_brk {pos : Pos} : PDst X xr W (.Break pos) (evS cx .brk) := ⟨_, ps_break, fun F H O σ ρ D S w => by simp only [evS] at w; exact w F H O σ S .refl (.refl _ _)⟩
theorem pds_cont {pos : Pos} : PDst X xr W (.Continue pos) (evS cx .cont) := ⟨_, ps_continue, fun F H O σ ρ D S w => by simp only [evS] at w; exact w F H O σ S .refl (.refl _ _)⟩
theorem pds_retN {pos : Pos} : PDst X xr W (.Return none pos) (evS cx .retN) := ⟨_, ps_retN, fun F H O σ ρ D S w => by
  simp only [evS] at w
  exact w F H O σ .non (.val .none) S .refl (.refl _ _) .non rfl⟩
theorem pds_ret {e : Expr} {x : Ex} {pos : Pos} (h : PD X xr W e (evE cx x)) : PDst X xr W (.Return (some e) pos) (evS cx (.ret x)) := by
  obtain ⟨t, p, k⟩ := h.run
  refine ⟨_, ps_ret p, fun F H O σ ρ D S w => ?_⟩
  simp only [evS] at w
  refine k F H O σ ρ _ S (WantS.seq .refl (.refl _ _) w fun r ρ1 F1 H1 O1 v S1 _ t1 p1 r1 w => ?_)
  cases e : retM r ρ1 with
  | none => rw [e] at w; exact w.elim
  | some m =>
    rw [e] at w
    exact w F1 H1 O1 σ v r S1 t1 p1 r1 e
theorem pds_expr {e : Expr} {x : Ex} {pos : Pos} (hs : swapsWith e none pos.line X.env = pure false) (h : PD X xr W e (evE cx x)) : PDst X xr W (.Expr e pos) (evS cx (.expr x)) := by
  obtain ⟨t, p, k⟩ := h.run
  refine ⟨_, ps_expr p hs, fun F H O σ ρ D S w => ?_⟩
  simp only [evS] at w
  exact k F H O σ ρ _ S (WantS.seq .refl (.refl _ _) w fun r ρ1 F1 H1 O1 v S1 _ t1 p1 r1 w => w F1 H1 O1 σ S1 t1 p1)
theorem pds_doc {z : Str} {j : Nat} {p1 p2 : Pos} : PDst X xr W (.Expr (.Constant (.str z) j p1) p2) (evS cx .pass) := ⟨_, ps_doc, fun F H O σ ρ D S w => by simp only [evS] at w; exact w F H O σ S .refl (.refl _ _)⟩
theorem pds_if {c : Expr} {a b : List Stmt} {z : Ex} {x y : List Sx} {pos : Pos} (hc : PDt X xr W c (evT cx z)) (ha : PDss X xr W a (evSs cx x)) (hb : PDss X xr W b (evSs cx y)) : PDst X xr W (.If c a b pos) (evS cx (.ite z x y)) := by
  obtain ⟨tc, pc, kc⟩ := hc.run
  obtain ⟨ta, pa, ka⟩ := ha.run
  obtain ⟨tb, pb, kb⟩ := hb.run
  refine ⟨_, ps_if pc pa pb, fun F H O σ ρ D S w => ?_⟩
  simp only [evS] at w
  refine kc F H O σ ρ _ S (WantS.seq .refl (.refl _ _) w fun k ρ1 F1 H1 O1 b S1 _ t1 p1 r1 w => ?_)
  subst r1
  cases b with
  | true => exact ite_tt (ka F1 H1 O1 σ ρ1 D S1 (WantS.after (by simpa using w) t1 p1))
  | false => exact ite_ff (kb F1 H1 O1 σ ρ1 D S1 (WantS.after (by simpa using w) t1 p1))
/-! ### name = e -/
/-- a name gets a value -/
theorem RepR.store {H0 : Hp} {i : Nat} {v : V} {r : R} {ρ' : Env} (S : StI K F H O σ ρ) (h : RepR K H0 F H O σ v r) (e : putR i r ρ = .ok () ρ') :
    ∃ F' O', StI K F' H O' (σ.set i (some v)) ρ' ∧ PinS σ ρ (σ.set i (some v)) ρ' ∧ (∀ a, F a → F' a) ∧ (∀ a, F' a → F a ∨ H0 a = none ∨ O a) ∧ (∀ a, O' a → O a ∨ H0 a = none) := by
  have sh : ∀ {d : D} {ρ1 : Env} {F1 O1 : Fz}, StI K F1 H O1 σ ρ1 → Dat K F1 H v d → (if free ρ1 i then Out.ok () (ρ1.set i (some (.sh d))) else .no) = .ok () ρ' → StI K F1 H O1 (σ.set i (some v)) ρ' ∧ PinS σ ρ1 (σ.set i (some v)) ρ' := by
    intro d ρ1 F1 O1 S1 hd e
    split at e
    · rename_i hf
      cases e
      exact ⟨S1.store hf (show RepM K F1 H O1 v (.sh d) from hd) fun z => (by cases z), pins_set hf⟩
    · cases e
  cases r with
  | val d =>
    obtain ⟨h1, h2⟩ := sh S h (show (if free ρ i then Out.ok () (ρ.set i (some (.sh d))) else .no) = .ok () ρ' from e)
    exact ⟨F, O, h1, h2, fun _ h => h, fun _ h => .inl h, fun _ h => .inl h⟩
  | new xs =>
    simp only [putR] at e
    split at e
    · rename_i hf
      cases e
      obtain ⟨a, vs, rfl, nf, no, h0, ha, hd⟩ := h
      have x : ∀ b, (O b ∨ b = a) → H b ≠ none ∧ ¬ F b := fun b hb => by
        rcases hb with hb | rfl
        · exact S.odom b hb
        · exact ⟨by rw [ha]; simp, nf⟩
      have S1 : StI K F H (fun b => O b ∨ b = a) σ ρ := by
        refine ⟨S.len, fun j m ej => ?_, S.dom, x, S.sep⟩
        obtain ⟨u, g1, g2⟩ := S.var j m ej
        exact ⟨u, g1, g2.mono (fun _ h => h) fun b _ _ ob => .inl ob⟩
      refine ⟨F, _, S1.store hf (show RepM K F H (fun b => O b ∨ b = a) (.ref a) (.ol false xs) from ⟨a, vs, rfl, .inr rfl, ha, hd⟩) fun _ j m' nj ej oj ej2 => ?_, pins_set hf, fun _ h => h, fun _ h => .inl h, fun b hb => ?_⟩
      · obtain ⟨u, g1, g2⟩ := S.var j m' ej
        rw [ej2] at g1
        cases g1
        obtain ⟨b, eb, ob⟩ := g2.own oj
        cases eb
        exact no ob
      · rcases hb with hb | rfl
        · exact .inl hb
        · exact .inr h0
    · cases e
  | newd xs =>
    simp only [putR] at e
    split at e
    · rename_i hf
      cases e
      obtain ⟨a, vs, rfl, nf, no, h0, ha, hd, hd2⟩ := h
      have x : ∀ b, (O b ∨ b = a) → H b ≠ none ∧ ¬ F b := fun b hb => by
        rcases hb with hb | rfl
        · exact S.odom b hb
        · exact ⟨by rw [ha]; simp, nf⟩
      have S1 : StI K F H (fun b => O b ∨ b = a) σ ρ := by
        refine ⟨S.len, fun j m ej => ?_, S.dom, x, S.sep⟩
        obtain ⟨u, g1, g2⟩ := S.var j m ej
        exact ⟨u, g1, g2.mono (fun _ h => h) fun b _ _ ob => .inl ob⟩
      refine ⟨F, _, S1.store hf (show RepM K F H (fun b => O b ∨ b = a) (.ref a) (.od false xs) from ⟨a, vs, rfl, .inr rfl, ha, hd, hd2⟩) fun _ j m' nj ej oj ej2 => ?_, pins_set hf, fun _ h => h, fun _ h => .inl h, fun b hb => ?_⟩
      · obtain ⟨u, g1, g2⟩ := S.var j m' ej
        rw [ej2] at g1
        cases g1
        obtain ⟨b, eb, ob⟩ := g2.own oj
        cases eb
        exact no ob
      · rcases hb with hb | rfl
        · exact .inl hb
        · exact .inr h0
    · cases e
  | own j =>
    simp only [putR] at e
    obtain ⟨d, ρ1, e1, e2⟩ := out_bind e
    obtain ⟨F1, O1, z⟩ := frz_ok S h e1
    obtain ⟨h1, h2⟩ := sh z.st z.dat e2
    exact ⟨F1, O1, h1, (PinS.of z.pin).trans h2, z.fz, z.fz', fun a h => .inl (z.ow a h)⟩
  | ob C fs =>
    simp only [putR] at e
    split at e
    · rename_i hf
      cases e
      exact ⟨F, O, S.store hf (show RepM K F H O v (.ob C fs) from h) fun z => (by cases z), pins_set hf, fun _ h => h, fun _ h => .inl h, fun _ h => .inl h⟩
    · cases e
  | sc ns => simp only [putR, MI.frz, Out.bind] at e; cases e
theorem putR_ex {i : Nat} {r : R} {z : Xn} (e : putR i r ρ = .ex z ρ') : False := by
  cases r with
  | new xs => simp only [putR] at e; split at e <;> cases e
  | newd xs => simp only [putR] at e; split at e <;> cases e
  | ob C fs => simp only [putR] at e; split at e <;> cases e
  | val d => simp only [putR, MI.frz, Out.bind] at e; split at e <;> cases e
  | own j =>
    simp only [putR] at e
    cases q : MI.frz (.own j) ρ with
    | ok d ρ1 => rw [q] at e; simp only [Out.bind] at e; split at e <;> cases e
    | ex y ρ1 => exact frz_ex q
    | no => rw [q] at e; cases e
  | sc ns => simp only [putR, MI.frz, Out.bind] at e; cases e
theorem asg_run {i : Nat} {te : TE} {x : Ex} (k : RunE X xr W te (evE cx x)) : ∀ F H O σ ρ D, StI X.K F H O σ ρ → WantS X.K xr W F H O σ ρ (evS cx (.asg i x) ρ) D → tAsg te (gName i) D σ H := by
  intro F H O σ ρ D S w
  simp only [evS] at w
  rw [bindA] at w
  refine k F H O σ ρ _ S (WantS.seq .refl (.refl _ _) w fun r ρ1 F1 H1 O1 v S1 _ t1 p1 r1 w => ?_)
  cases e : putR i r ρ1 with
  | no => rw [e] at w; exact w.elim
  | ex z ρ2 =>
    exact (putR_ex e).elim
  | ok u ρ2 =>
    rw [e] at w
    obtain ⟨F2, O2, S2, p2, f1, f2, f3⟩ := RepR.store S1 r1 e
    refine w F2 H1 O2 _ S2 ⟨fun a h => f1 a (t1.fz a h), fun a h => ?_, fun a h => ?_, t1.hp, t1.all⟩ (p1.trans p2)
    · rcases f2 a h with q | q | q
      · exact t1.fz' a q
      · exact .inr (.inl q)
      · rcases t1.ow a q with q | q
        · exact .inr (.inr q)
        · exact .inr (.inl q)
    · rcases f3 a h with q | q
      · exact t1.ow a q
      · exact .inr q
theorem pds_asg {i : Nat} {y : Str} {e : Expr} {x : Ex} {p pos : Pos} (hN : X.N.Nodup) (hi : X.N[i]? = some y) (hx : Loc X.env.scope y) (hf : X.fn y = true ∨ X.env.scope.names.lookup y = some .local) (hs : swapsWith e (some (.Name y p)) pos.line X.env = pure false) (h : PD X xr W e (evE cx x)) :
    PDst X xr W (.Assign [.Name y p] e pos) (evS cx (.asg i x)) := by
  obtain ⟨t, pt, k⟩ := h.run
  exact ⟨_, ps_set hN hi hx pt hs hf, asg_run k⟩
theorem pds_asgC {i : Nat} {y : Str} {p spos : Pos} {elt tge iter : Expr} {ifs : List Expr} {scope : Scope} {own : List (Str × Nat)} {pos : Pos} {x : Ex} {tg : Tg} {it : It} {c : Option Ex} (hc : X.calm = true) (hN : X.N.Nodup) (hy : X.N[i]? = some y) (hyl : X.env.scope.names.lookup y = some .local)
    (hsw : swapsWith (.ListComp elt [⟨tge, iter, ifs, 0⟩] scope pos) (some (.Name y p)) spos.line X.env = pure true) (hi : PDi X xr W tge iter (evI cx it)) (ok : BlkOk X.N X.env.scope scope own) (hv : own.map (·.2) = tg.vars)
    (hg : ∀ (s : Shared) (H : Hp) (C : Addr) (cl : List (Str × Addr)) (fp : List Addr), PG (X.blk s H scope (compEnvC scope cl C X.env) fp) tge (canG X.K tg))
    (ht : ∀ (s : Shared) (H : Hp) (C : Addr) (cl : List (Str × Addr)) (fp : List Addr), PDc (X.blk s H scope (compEnvC scope cl C X.env) fp) xr W0 ifs (condEv cx c))
    (he : ∀ (s : Shared) (H : Hp) (C : Addr) (cl : List (Str × Addr)) (fp : List Addr), PD (X.blk s H scope (compEnvC scope cl C X.env) fp) xr W0 elt (evE cx x))
    (hs : ∀ x, foldedSetIterable iter X.env x = pure x) : PDst X xr W (.Assign [.Name y p] (.ListComp elt [⟨tge, iter, ifs, 0⟩] scope pos) spos) (evS cx (.asg i (.comp x tg it c))) := by
  obtain ⟨wi, pi, ki⟩ := hi.run
  exact ⟨_, ps_setLc (tt := canT X.K xr W0 (condEv cx c)) (te := canE X.K xr W0 (evE cx x)) hc hN hy hyl hsw pi ok hg (fun s H C cl fp => (ht s H C cl fp).run) (fun s H C cl fp => (he s H C cl fp).can) hs, asg_run (comp_run ki hv)⟩
/-! ### a, b = e -/
theorem pds_unp {is : List Nat} {tge e : Expr} {x : Ex} {pos : Pos} (hs : swapsWithSole [tge] e pos.line X.env = pure false) (hw : swappedStores [tge] e X.env = pure none) (hn : noStar tge = true) (hg : PG X tge (canG X.K (.tup (is.map .name)))) (h : PD X xr W e (evE cx x)) :
    PDst X xr W (.Assign [tge] e pos) (evS cx (.unp is x)) := by
  obtain ⟨t, pt, k⟩ := h.frz.run
  refine ⟨_, ps_asg pt hg hs hw (by rw [assign_one hn]; rfl), fun F H O σ ρ D S w => ?_⟩
  simp only [evS] at w
  rw [bindA] at w
  refine k F H O σ ρ _ S (WantS.seq .refl (.refl _ _) (show WantS X.K xr W F H O σ ρ ((evE cx x ρ).bind MI.frz |>.bind fun d ρ => (Out.lift (Tg.put (.tup (is.map .name)) d ρ) ρ).bind fun ρ' _ => .ok .next ρ') D by rw [bindA]; exact w) fun d ρ1 F1 H1 O1 v S1 _ t1 p1 r1 w => ?_)
  obtain ⟨ρ2, e2, w⟩ := w.lift
  exact ⟨F1, O1, ρ1, d, ρ2, S1, r1, e2, fun σ2 S2 o2 n2 => w F1 H1 O1 σ2 S2 t1 (p1.trans n2)⟩
end
end MI
namespace MI
open PySem PySem.Spec PyProof.Rows L2
variable {K : PySem.W.Frag} {F F' : Fz} {H H' : Hp} {O O' : Fz} {σ σ' : L2.St} {ρ ρ' : Env} {xr : XRep} {W : WX}
theorem ixOf_eq (n : Nat) (i : Int) : ixOf n i = ixN n i := rfl
theorem intAt_some {o : Option D} {k : Int} (h : intAt o = some k) : o = some (.int k) := by
  unfold intAt at h
  split at h
  · cases h; rfl
  · cases h
section
variable {X : Cx} {cx : Cxt}
def noSlice : Expr → Bool
  | .Slice _ _ _ _ => false
  | _ => true
theorem plain_ix {b : Expr} (h : noSlice b = true) : PlainIx b := by
  intro o i
  cases b <;> first | rfl | cases h
theorem assign_sub {o i : Expr} {pos : Pos} (h : noSlice i = true) (env : PySem.Env) (v : Value) : assign (.Subscript o i pos) env v = (do
    let ov ← holding [v] (eval o env)
    let iv ← holding [v, ov] (eval i env)
    standAt pos
    holding [v, ov, iv] (setItem ov iv v)
    release [v, ov, iv] []) := by
  cases i <;> first | rfl | cases h
/-! ### xs[i] = e, d[k] = e -/
def rSetD : V → V → V → Hp → (Hp → Prop) → Prop := fun o i v H Q => ∃ a kvs k, o = .ref a ∧ i = kV k ∧ H a = some (.dK kvs) ∧ kvs.length < sizeLine ∧ Q (upd H a (.dK (putK kvs k v)))
theorem set_dict : PSet X rSetD := by
  intro pins s σ H o i v ov iv u Q I ro ri rv h
  obtain ⟨a, kvs, k, rfl, rfl, e, l, q⟩ := h
  obtain rfl : ov = Value.ref a := ro
  obtain ⟨z, hd, vs, rel, dd⟩ := dk_of I.hok e
  have hz : vs.length ≤ sizeLine := by rw [← rel.length]; exact z
  have hl : (putK kvs k v).length ≤ sizeLine := by have := length_putK kvs k v; omega
  refine wpAny_setItem_pairs (hsz := hz) (kV_is ri) dd fun h' dd' hs => ⟨_, ?_, q⟩
  have he : ∃ q, h'.get? a = some q := let ⟨q, _, _, hq, _⟩ := dd'; ⟨q, hq⟩
  exact d_write I (by rw [e]; exact True.intro) hs he (dk_new hl hd (rel.put k rv) dd')
def rSetB : V → V → V → Hp → (Hp → Prop) → Prop := fun o i v H Q => rSetL o i v H Q ∨ rSetD o i v H Q
theorem set_both : PSet X rSetB := by
  intro pins s σ H o i v ov iv u Q I ro ri rv h
  rcases h with h | h
  · exact set_list pins s σ H o i v ov iv u Q I ro ri rv h
  · exact set_dict pins s σ H o i v ov iv u Q I ro ri rv h
theorem StI.od {i : Nat} {p : Bool} {xs : List (D × D)} (S : StI K F H O σ ρ) (e : ρ.get i = some (.od p xs)) : ∃ a vs, σ[i]? = some (some (.ref a)) ∧ O a ∧ H a = some (.dK vs) ∧ DatsK K F H vs xs := by
  obtain ⟨v, h1, a, vs, rfl, h2, h3, h4⟩ := S.var i _ e
  exact ⟨a, vs, h1, h2, h3, h4⟩
theorem StI.chgD {i : Nat} {p : Bool} {xs ys : List (D × D)} {a : Addr} {ws : List (Key × V)} (S : StI K F H O σ ρ) (e : ρ.get i = some (.od p xs)) (hv : σ[i]? = some (some (.ref a))) (oa : O a) (hd : DatsK K F H ws ys) :
    StI K F (upd H a (.dK ws)) O σ (ρ.set i (some (.od p ys))) := S.chg e rfl hv ⟨a, ws, rfl, oa, upd_same, Dats.ext (ext_own S oa) hd.1, Dats.ext (ext_own S oa) hd.2⟩ rfl
theorem pin_chgD {i : Nat} {p : Bool} {xs ys : List (D × D)} (e : ρ.get i = some (.od p xs)) : Pin ρ (ρ.set i (some (.od p ys))) := by
  refine ⟨List.length_set, fun j m ej pj => ?_⟩
  by_cases q : i = j
  · subst q
    rw [e] at ej
    cases ej
    exact ⟨.od p ys, get_set_self (get_lt e), pj⟩
  · exact ⟨m, (get_set_ne q).trans ej, pj⟩
theorem pds_setI {i : Nat} {y : Str} {e ixe : Expr} {x z : Ex} {p p2 pos : Pos} (hN : X.N[i]? = some y) (hv : Vis X.env.scope y) (hd : (y == ("__debug__" : Str)) = false) (hcd : (y == ("__classdict__" : Str)) = false)
    (hn : noSlice ixe = true) (hs : swapsWithSole [.Subscript (.Name y p) ixe p2] e pos.line X.env = pure false) (hw : swappedStores [.Subscript (.Name y p) ixe p2] e X.env = pure none) (h : PD X xr W e (evE cx x)) (hi : PD X xr W ixe (evE cx z)) :
    PDst X xr W (.Assign [.Subscript (.Name y p) ixe p2] e pos) (evS cx (.setI i z x)) := by
  obtain ⟨te, pe, ke⟩ := h.frz.run
  obtain ⟨ti, pi, ki⟩ := hi.run
  refine ⟨_, ps_asg pe (pg_sub (pe_var hN hv hd hcd) pi set_both (assign_sub hn X.env)) hs hw rfl, fun F H O σ ρ D S w => ?_⟩
  simp only [evS] at w
  refine ke F H O σ ρ _ S (WantS.seq .refl (.refl _ _) w fun d ρ1 F1 H1 O1 v S1 _ t1 p1 r1 w1 => ?_)
  split at w1
  · rename_i q qs eq
    obtain ⟨a, vs, ha, oa, hl, dl⟩ := S1.ol eq
    refine ⟨.ref a, ha, ?_⟩
    refine ki F1 H1 O1 σ ρ1 _ S1 (WantS.seq t1 p1 w1 fun r ρ2 F2 H2 O2 u S2 t12 t2 p2 r2 w2 => ?_)
    split at w2
    · rename_i b xs k eb ek
      obtain ⟨c, ws, hc, oc, hw', dw⟩ := S2.ol eb
      have : c = a := by rw [ha] at hc; cases hc; rfl
      subst this
      split at w2
      · rename_i j hj
        have hu := (cont_ok S2 r2 (intAt_some ek)).int
        subst hu
        refine .inl ⟨c, ws, k, j, rfl, rfl, hw', by rw [dw.length]; exact hj, ?_⟩
        have hd2 : Dats X.K F2 H2 (ws.set j v) (xs.set j d) := dw.set j (Dat.ext (S1.ext t12) r1)
        exact w2 F2 _ O2 σ (S2.chgL eb hc oc hd2) (t2.trans (stp_own oc)) (p2.then (pin_chg eb))
      · exact w2.elim
    · exact w2.elim
  · rename_i q qs eq
    obtain ⟨a, vs, ha, oa, hl, dl⟩ := S1.od eq
    refine ⟨.ref a, ha, ?_⟩
    refine ki F1 H1 O1 σ ρ1 _ S1 (WantS.seq t1 p1 w1 fun r ρ2 F2 H2 O2 u S2 t12 t2 p2 r2 w2 => ?_)
    split at w2
    · rename_i b xs k eb ek
      obtain ⟨c, ws, hc, oc, hw', dw⟩ := S2.od eb
      have : c = a := by rw [ha] at hc; cases hc; rfl
      subst this
      split at w2
      · rename_i hj
        simp only [Bool.and_eq_true, decide_eq_true_eq] at hj
        obtain ⟨kk, hk, hk2⟩ := isKey_of (K := X.K) (F := F2) (H := H2) hj.1
        have hu : u = kV kk := by
          have cu := cont_ok S2 r2 ek
          cases cu with
          | sh h => exact hk h
          | ol _ _ => cases hj.1
          | od _ _ _ => cases hj.1
        subst hu
        refine .inr ⟨c, ws, kk, rfl, rfl, hw', by rw [dw.length, ← lim_eq]; exact hj.2, ?_⟩
        exact w2 F2 _ O2 σ (S2.chgD eb hc oc (dput_ok hk2 (Dat.ext (S1.ext t12) r1) dw)) (t2.trans (stp_own oc)) (p2.then (pin_chgD eb))
      · exact w2.elim
    · exact w2.elim
  · exact w1.elim
/-! ### for -/
theorem pds_for {tge ie : Expr} {body : List Stmt} {tg : Tg} {it : It} {b : List Sx} {pos : Pos} (hp : PassesOwn (model X.prog X.w) X.A X.env X.xe) (hc : X.calm = true) (hi : PDi X xr W tge ie (evI cx it)) (hg : PG X tge (canG X.K tg)) (hb : PDss X xr W body (evSs cx b))
    (hs : ∀ x, foldedSetIterable ie X.env x = pure x) : PDst X xr W (.For tge ie body [] pos) (evS cx (.for tg it b)) := by
  obtain ⟨wi, pi, ki⟩ := hi.run
  obtain ⟨tb, pb, kb⟩ := hb.run
  refine ⟨_, ps_for hp hc pi hg pb hs, fun F H O σ ρ D S w => ?_⟩
  simp only [evS] at w
  refine ki F H O σ ρ _ S (WantS.seq .refl (.refl _ _) w fun items ρ1 F1 H1 O1 J S1 _ t1 p1 wd w1 => ?_)
  generalize hf : (fun (d : MI.D) (ρ : Env) => match Tg.put tg d ρ with
    | none => Out.no
    | some ρ => evSs cx b ρ) = f at w1
  refine ⟨fun i m σ' H' => m = items.length - i ∧ i ≤ items.length ∧ ∃ F' O' ρi, StI X.K F' H' O' σ' ρi ∧ Stp F1 H1 O1 F' H' O' ∧ WantS X.K xr W F' H' O' σ' ρi (forL f (items.drop i) ρi) D,
    ⟨items.length, by simp, Nat.zero_le _, F1, O1, ρ1, S1, .refl, by simpa using WantS.after w1 t1 p1⟩, ?_⟩
  rintro i m σ2 H2 ⟨rfl, hi, F2, O2, ρi, S2, t2, w2⟩
  have xt : Ext F1 H1 F2 H2 := S1.ext t2
  by_cases hlt : i < items.length
  · refine .inr ⟨wd.go i F2 H2 xt hlt, fun σ' H' => i + 1 ≤ items.length ∧ ∃ F' O' ρi, StI X.K F' H' O' σ' ρi ∧ Stp F1 H1 O1 F' H' O' ∧ WantS X.K xr W F' H' O' σ' ρi (forL f (items.drop (i + 1)) ρi) D, fun σ' H' ⟨h1, h2⟩ => ⟨items.length - (i + 1), by omega, rfl, h1, h2⟩, fun y H3 hy => ?_⟩
    have nr := wd.yld i items[i] F2 H2 y H3 xt (by simp [hlt]) hy
    obtain ⟨F3, S3, t3, rr⟩ := nr.use S2
    rw [List.drop_eq_getElem_cons hlt] at w2
    unfold forL at w2
    subst hf
    dsimp only at w2
    cases hput : Tg.put tg items[i] ρi with
    | none => rw [hput] at w2; exact w2.elim
    | some ρa =>
      rw [hput] at w2
      refine ⟨F3, O2, ρi, items[i], ρa, S3, rr, hput, fun σa Sa oa na => kb F3 H3 O2 σa ρa _ Sa ?_⟩
      dsimp only at w2
      cases e : evSs cx b ρa with
      | no => rw [e] at w2; exact w2.elim
      | ex z ρ5 =>
        rw [e] at w2
        exact fun F5 H5 O5 σ5 c d S5 t5 p5 r5 => w2 F5 H5 O5 σ5 c d S5 (t3.trans t5) (na.trans p5) r5
      | ok fl ρ5 =>
        rw [e] at w2
        cases fl with
        | next => exact fun F5 H5 O5 σ5 S5 t5 p5 => ⟨hlt, F5, O5, ρ5, S5, t2.trans (t3.trans t5), WantS.after w2 (t3.trans t5) (na.trans p5)⟩
        | cont => exact fun F5 H5 O5 σ5 S5 t5 p5 => ⟨hlt, F5, O5, ρ5, S5, t2.trans (t3.trans t5), WantS.after w2 (t3.trans t5) (na.trans p5)⟩
        | brk => exact fun F5 H5 O5 σ5 S5 t5 p5 => w2 F5 H5 O5 σ5 S5 (t3.trans t5) (na.trans p5)
        | ret m => exact fun F5 H5 O5 σ5 v r S5 t5 p5 r5 e5 => w2 F5 H5 O5 σ5 v r S5 (t3.trans t5) (na.trans p5) (r5.from fun a e => t3.none e) e5
  · have e : i = items.length := by omega
    subst e
    rw [List.drop_length] at w2
    refine .inl ⟨wd.stop F2 H2 xt, w2 F2 H2 O2 σ2 S2 .refl (.refl _ _)⟩
end
end MI
namespace MI
open PySem PySem.Spec PyProof.Rows L2
variable {K : PySem.W.Frag} {F F' : Fz} {H H' : Hp} {O O' : Fz} {σ σ' : L2.St} {ρ ρ' : Env} {xr : XRep} {W : WX}
/-! ### a def, called with no guard around -/
structure FnG (P : Program) (w : World) (K : PySem.W.Frag) (mg : Str → Option Value) (base : Heap) (k : Nat) (f : Addr) (fd : FuncData) (ps : List Str) (sp : Sp) : Prop where
  len : ∀ vs H Q E, sp vs H Q E → vs.length = ps.length
  run : ∀ (A : Around) (outer : List PySem.Env) (s : Shared) (H : Hp) (args : Args) (us : List Value) (vs : List V) (Q : VK) (E : XK), A.guards = some [] → Room k A → Env0 P w K mg base A outer s H → BindsTo s fd args (ps.zip us) → Vals vs us → sp vs H Q E →
    codeAny (model P w) A (.call (.ref f) args) (CR (L2.CX P w) outer P w H s Q E) s
theorem FnG.mono {P : Program} {w : World} {K : PySem.W.Frag} {mg : Str → Option Value} {base : Heap} {j k : Nat} {f : Addr} {fd : FuncData} {ps : List Str} {sp : Sp} (g : FnG P w K mg base j f fd ps sp) (h : j ≤ k) : FnG P w K mg base k f fd ps sp :=
  ⟨g.len, fun A outer s H args us vs Q E hg hr => g.run A outer s H args us vs Q E hg (hr.mono h)⟩
section
variable {X : Cx} {k n : Nat} {f : Addr} {fd : FuncData} {ps ks : List Str} {sp : Sp} {x : Str} {p pos : Pos} {es : List Expr} {kws : List Keyword} {t tk : TA} {g : List Value → List Value → List Value} {gV : List V → List V → List V}
def tCallM (n m : Nat) (sp : Sp) (gV : List V → List V → List V) (W : WX) (t tk : TA) : TE := fun σ H Q => t σ H fun vs H1 => tk σ H1 fun zs H2 => vs.length = n ∧ zs.length = m ∧ sp (gV vs zs) H2 Q (WE W σ)
theorem run_G {pins : List (Addr × Obj)} {s : Shared} {Q : VK} {us ws : List Value} {vs zs : List V} (hG : FnG X.prog X.w X.K X.mg X.base k f fd ps sp) (ga : X.A.guards = some []) (hr : Room k X.A) (hb : KBn X.K fd ps n ks g gV) (tk : Takes X W)
    (I : Inv X pins σ H s) (r : Vals vs us) (rz : Vals zs ws) (l1 : vs.length = n) (l2 : zs.length = ks.length) (h : sp (gV vs zs) H Q (WE W σ)) : wpAny (model X.prog X.w) X.A (call (.ref f) us (ks.zip ws)) (EP X pins σ Q) X.xe s := by
  have bt := hb.to s us ws I.kIn (r.length.symm.trans l1) (rz.length.symm.trans l2)
  refine wpAny_call (codeAny_mono (hG.run _ _ s H ⟨us, ks.zip ws⟩ _ _ Q (WE W σ) ga hr I.env0 bt (hb.rel r rz) h) fun res s' hq => ?_)
  match res, hq with
  | .error e, hq => exact passAt tk σ pins H s e s' I hq
  | .ok (.ret u), hq => exact I.after hq
theorem pe_callM {e : Expr} (hG : FnG X.prog X.w X.K X.mg X.base k f fd ps sp) (ga : X.A.guards = some []) (hr : Room k X.A) (hg : Gl X x) (hm : X.mg x = some (.ref f)) (hk : PySem.W.keepIn X.K (.ref f) = true) (hb : KBn X.K fd ps n ks g gV) (tx : Takes X W)
    (ha : PA X (e :: es) t) (hkw : PK X kws tk) (hst : (e :: es).all noStar = true) (hall : (backToKw pos (keywordEach kws X.env)).all (·.1.isSome) = true) (hks : (backToKw pos (keywordEach kws X.env)).filterMap (·.1) = ks) (hnn : (backToKw pos (keywordEach kws X.env)).any (·.1.isNone) = false)
    (hdb : (x == ("__debug__" : Str)) = false) : PE X (.Call (.Name x p) (e :: es) kws pos) (tCallM n ks.length sp gV W t tk) := by
  constructor
  intro pins s σ H Q I h
  apply wpAny_Call_Name_kw
  refine ld_glob I hg hm ?_ hdb
  have hst' : noStar e = true ∧ es.all noStar = true := by simpa using hst
  refine PySem.W.callWith_KW (h₀ := X.base) I.ok.mod.kin hk hall (thn (ha.run pos pins s σ H _ I h) fun us s1 ⟨vs, H1, I1, r, q⟩ => ?_) (by rw [hnn, star_no hst]; rfl) (star_one hst'.1 _ _)
  refine thn (hkw.run pos pins s1 σ H1 _ I1 q) fun ws s2 ⟨zs, H2, I2, rz, l1, l2, q2⟩ => ⟨I2.kIn, ?_⟩
  rw [hks]
  exact run_G hG ga hr hb tx I2 r rz l1 l2 q2
theorem pe_callM0 (hG : FnG X.prog X.w X.K X.mg X.base k f fd ps sp) (ga : X.A.guards = some []) (hr : Room k X.A) (hg : Gl X x) (hm : X.mg x = some (.ref f)) (hk : PySem.W.keepIn X.K (.ref f) = true) (hb : KBn X.K fd ps n ks g gV) (tx : Takes X W)
    (hkw : PK X kws tk) (hall : (backToKw pos (keywordEach kws X.env)).all (·.1.isSome) = true) (hks : (backToKw pos (keywordEach kws X.env)).filterMap (·.1) = ks) (hnn : (backToKw pos (keywordEach kws X.env)).any (·.1.isNone) = false)
    (hdb : (x == ("__debug__" : Str)) = false) : PE X (.Call (.Name x p) [] kws pos) (tCallM n ks.length sp gV W tNil tk) := by
  constructor
  intro pins s σ H Q I h
  apply wpAny_Call_Name_kw
  refine ld_glob I hg hm ?_ hdb
  refine PySem.W.callWith_KW0 (h₀ := X.base) I.ok.mod.kin hk hall ?_ (by rw [hnn]; rfl)
  refine thn (hkw.run pos pins s σ H _ I h) fun ws s2 ⟨zs, H2, I2, rz, l1, l2, q2⟩ => ⟨I2.kIn, ?_⟩
  rw [hks]
  exact run_G hG ga hr hb tx I2 .nil rz l1 l2 q2
end
end MI
namespace MI
open PySem PySem.Spec PyProof.Rows L2
variable {K : PySem.W.Frag} {F F' : Fz} {H H' : Hp} {O O' : Fz} {σ σ' : L2.St} {ρ ρ' : Env} {xr : XRep} {W : WX}
/-! ### the values handed to a call -/
theorem RepRs.stp {H0 : Hp} (S : StI K F H O σ ρ) (t : Stp F H O F' H' O') : ∀ {vs : List V} {rs : List R}, RepRs K H0 F H O σ vs rs → RepRs K H0 F' H' O' σ vs rs
  | _, _, .nil => .nil
  | _, _, .cons a b => .cons (a.stp S t) (RepRs.stp S t b)
theorem RepRs.from {H0 H1 : Hp} (k : ∀ a, H1 a = none → H0 a = none) : ∀ {vs : List V} {rs : List R}, RepRs K H1 F H O σ vs rs → RepRs K H0 F H O σ vs rs
  | _, _, .nil => .nil
  | _, _, .cons a b => .cons (a.from k) (RepRs.from k b)
theorem RepRs.append {H0 : Hp} : ∀ {vs ws : List V} {rs ss : List R}, RepRs K H0 F H O σ vs rs → RepRs K H0 F H O σ ws ss → RepRs K H0 F H O σ (vs ++ ws) (rs ++ ss)
  | _, _, _, _, .nil, h => h
  | _, _, _, _, .cons a b, h => .cons a (RepRs.append b h)
theorem RepRs.length {H0 : Hp} : ∀ {vs : List V} {rs : List R}, RepRs K H0 F H O σ vs rs → vs.length = rs.length
  | _, _, .nil => rfl
  | _, _, .cons a b => by simp [RepRs.length b]
theorem RepRs.get {H0 : Hp} : ∀ {vs : List V} {rs : List R} {i : Nat} {r : R}, RepRs K H0 F H O σ vs rs → rs[i]? = some r → ∃ v, vs[i]? = some v ∧ RepR K H0 F H O σ v r
  | _, _, _, _, .nil, e => by simp at e
  | _, _, 0, _, .cons a b, e => by simp at e; subst e; exact ⟨_, rfl, a⟩
  | _, _, i + 1, _, .cons a b, e => by
    obtain ⟨v, h1, h2⟩ := RepRs.get (i := i) b (by simpa using e)
    exact ⟨v, by simpa using h1, h2⟩
/-- handed over: what is new is shared from now on -/
theorem pass_ok {H0 : Hp} {v : V} {r r2 : R} {ref : Bool} (S : StI K F H O σ ρ) (h : RepR K H0 F H O σ v r) (e : R.pass ref r ρ = .ok r2 ρ') :
    ∃ F' O', StI K F' H O' σ ρ' ∧ RepR K H0 F' H O' σ v r2 ∧ Pin ρ ρ' ∧ (∀ a, F a → F' a) ∧ (∀ a, F' a → F a ∨ H0 a = none ∨ O a) ∧ (∀ a, O' a → O a) := by
  have fz : ∀ r, RepR K H0 F H O σ v r → ((MI.frz r ρ).bind fun d ρ => (.ok (.val d) ρ : Out R)) = .ok r2 ρ' → ∃ F' O', StI K F' H O' σ ρ' ∧ RepR K H0 F' H O' σ v r2 ∧ Pin ρ ρ' ∧ (∀ a, F a → F' a) ∧ (∀ a, F' a → F a ∨ H0 a = none ∨ O a) ∧ (∀ a, O' a → O a) := by
    intro r h e
    obtain ⟨d, ρ1, e1, e2⟩ := out_bind e
    cases e2
    obtain ⟨F1, O1, z⟩ := frz_ok S h e1
    exact ⟨F1, O1, z.st, z.dat, z.pin, z.fz, z.fz', z.ow⟩
  cases r with
  | ob C fs =>
    cases e
    exact ⟨F, O, S, h, .refl _, fun _ h => h, fun _ h => .inl h, fun _ h => h⟩
  | sc ns =>
    cases e
    exact ⟨F, O, S, h, .refl _, fun _ h => h, fun _ h => .inl h, fun _ h => h⟩
  | val d =>
    cases ref with
    | true => cases e; exact ⟨F, O, S, h, .refl _, fun _ h => h, fun _ h => .inl h, fun _ h => h⟩
    | false => exact fz _ h e
  | own i =>
    cases ref with
    | true => cases e; exact ⟨F, O, S, h, .refl _, fun _ h => h, fun _ h => .inl h, fun _ h => h⟩
    | false => exact fz _ h e
  | new xs =>
    cases ref with
    | true =>
      cases e
      obtain ⟨F1, O1, z⟩ := frz_ok (ρ' := ρ) (d := .list xs) S h rfl
      exact ⟨F1, O1, z.st, z.dat, z.pin, z.fz, z.fz', z.ow⟩
    | false => exact fz _ h e
  | newd xs =>
    cases ref with
    | true =>
      cases e
      obtain ⟨F1, O1, z⟩ := frz_ok (ρ' := ρ) (d := .dict xs) S h rfl
      exact ⟨F1, O1, z.st, z.dat, z.pin, z.fz, z.fz', z.ow⟩
    | false => exact fz _ h e
theorem pass_ex {ref : Bool} {r : R} {x : Xn} (e : R.pass ref r ρ = .ex x ρ') : False := by
  have fz : ∀ r, ((MI.frz r ρ).bind fun d ρ => (.ok (.val d) ρ : Out R)) = .ex x ρ' → False := fun r e => by
    cases q : MI.frz r ρ with
    | ok d ρ1 => rw [q] at e; cases e
    | ex y ρ1 => exact frz_ex q
    | no => rw [q] at e; cases e
  cases r <;> cases ref <;> first | (cases e; done) | exact fz _ e
theorem stp_pass {F0 O0 : Fz} {H0 : Hp} (t : Stp F0 H0 O0 F H O) (f1 : ∀ a, F a → F' a) (f2 : ∀ a, F' a → F a ∨ H0 a = none ∨ O a) (f3 : ∀ a, O' a → O a) : Stp F0 H0 O0 F' H O' where
  fz := fun a h => f1 a (t.fz a h)
  fz' := fun a h => by
    rcases f2 a h with q | q | q
    · exact t.fz' a q
    · exact .inr (.inl q)
    · rcases t.ow a q with q | q
      · exact .inr (.inr q)
      · exact .inr (.inl q)
  ow := fun a h => t.ow a (f3 a h)
  hp := t.hp
  all := t.all
abbrev WantR (K : PySem.W.Frag) (xr : XRep) (W : WX) (σ : L2.St) (F : Fz) (H : Hp) (O : Fz) (ρ : Env) (o : Out (List R)) (Q : List V → Hp → Prop) : Prop :=
  WantG K xr W (fun F' H' O' vs rs => RepRs K H F' H' O' σ vs rs) σ F H O ρ o Q
abbrev RunR (X : Cx) (xr : XRep) (W : WX) (t : TA) (ev : Env → Out (List R)) : Prop := ∀ F H O σ ρ Q, StI X.K F H O σ ρ → WantR X.K xr W σ F H O ρ (ev ρ) Q → t σ H Q
section
variable {X : Cx} {cx : Cxt}
theorem runr_nil {refs : List Bool} : RunR X xr W tNil (evRs cx [] refs) := fun F H O σ ρ Q S w => by
  simp only [evRs] at w
  exact w F H O _ S .refl (.refl _) .nil
theorem runr_cons {te : TE} {t : TA} {x : Ex} {xs : List Ex} {refs : List Bool} (ka : RunE X xr W te (evE cx x)) (kb : RunR X xr W t (evRs cx xs refs.tail)) : RunR X xr W (tCons te t) (evRs cx (x :: xs) refs) := by
  intro F H O σ ρ Q S w
  simp only [evRs] at w
  rw [bindA] at w
  refine ka F H O σ ρ _ S (WantG.seq .refl (.refl _) w fun r ρ1 F1 H1 O1 v S1 _ t1 p1 r1 w => ?_)
  cases e : R.pass (refs.headD true) r ρ1 with
  | no => rw [e] at w; exact w.elim
  | ex z ρ2 => exact (pass_ex e).elim
  | ok r2 ρ2 =>
    rw [e] at w
    obtain ⟨F2, O2, S2, rr, p2, f1, f2, f3⟩ := pass_ok S1 r1 e
    have t2 := stp_pass t1 f1 f2 f3
    have w' : WantG X.K xr W (fun F' H' O' vs rs => RepRs X.K H F' H' O' σ vs rs) σ F H O ρ ((evRs cx xs refs.tail ρ2).bind fun rs ρ => .ok (r2 :: rs) ρ) Q := w
    refine kb F2 H1 O2 σ ρ2 _ S2 (WantG.seq t2 (p1.trans p2) w' fun rs ρ3 F3 H3 O3 vs S3 t23 t3 p3 r3 w => ?_)
    exact w F3 H3 O3 _ S3 t3 p3 (.cons (rr.stp S2 t23) (r3.from fun a e => t2.none e))
structure PDr (X : Cx) (xr : XRep) (W : WX) (es : List Expr) (ev : Env → Out (List R)) : Prop where
  run : ∃ t : TA, PA X es t ∧ (es = [] → t = tNil) ∧ RunR X xr W t ev
structure PDk (X : Cx) (xr : XRep) (W : WX) (kws : List Keyword) (ev : Env → Out (List R)) : Prop where
  run : ∃ t : TA, PK X kws t ∧ RunR X xr W t ev
theorem pdr_nil {refs : List Bool} : PDr X xr W [] (evRs cx [] refs) := ⟨_, pa_nil, fun _ => rfl, runr_nil⟩
theorem pdr_cons {e : Expr} {es : List Expr} {x : Ex} {xs : List Ex} {refs : List Bool} (hs : noStar e = true) (ha : PD X xr W e (evE cx x)) (hb : PDr X xr W es (evRs cx xs refs.tail)) : PDr X xr W (e :: es) (evRs cx (x :: xs) refs) := by
  obtain ⟨ta, pa, ka⟩ := ha.run
  obtain ⟨tb, pb, _, kb⟩ := hb.run
  exact ⟨_, pa_cons pa pb (star_one hs _ _), fun h => (by cases h), runr_cons ka kb⟩
theorem pdk_nil {refs : List Bool} : PDk X xr W [] (evRs cx [] refs) := ⟨_, pk_nil, runr_nil⟩
theorem pdk_cons {e : Expr} {nm : Option Str} {kpos : Pos} {kws : List Keyword} {x : Ex} {xs : List Ex} {refs : List Bool} (ha : PD X xr W e (evE cx x)) (hb : PDk X xr W kws (evRs cx xs refs.tail)) : PDk X xr W (⟨nm, e, kpos⟩ :: kws) (evRs cx (x :: xs) refs) := by
  obtain ⟨ta, pa, ka⟩ := ha.run
  obtain ⟨tb, pb, kb⟩ := hb.run
  exact ⟨_, pk_cons pa pb, runr_cons ka kb⟩
end
theorem evRs_append (cx : Cxt) : ∀ (xs ys : List Ex) (refs : List Bool) (ρ : Env), evRs cx (xs ++ ys) refs ρ = (evRs cx xs refs ρ).bind fun rs ρ => (evRs cx ys (refs.drop xs.length) ρ).bind fun ss ρ => .ok (rs ++ ss) ρ
  | [], ys, refs, ρ => by
    simp only [List.nil_append, evRs, Out.bind, List.length_nil, List.drop_zero]
    cases evRs cx ys refs ρ <;> rfl
  | x :: xs, ys, refs, ρ => by
    simp only [List.cons_append, evRs]
    cases (evE cx x ρ).bind (R.pass (refs.headD true)) with
    | ex z ρ1 => rfl
    | no => rfl
    | ok r ρ1 =>
      show (evRs cx (xs ++ ys) refs.tail ρ1).bind _ = ((evRs cx xs refs.tail ρ1).bind _).bind _
      rw [evRs_append cx xs ys refs.tail ρ1]
      have this : refs.tail.drop xs.length = refs.drop (x :: xs).length := by simp [List.drop_tail]
      cases evRs cx xs refs.tail ρ1 with
      | ex z ρ2 => rfl
      | no => rfl
      | ok rs ρ2 =>
        show ((evRs cx ys (refs.tail.drop xs.length) ρ2).bind _).bind _ = (evRs cx ys (refs.drop (x :: xs).length) ρ2).bind _
        rw [this]
        cases evRs cx ys (refs.drop (x :: xs).length) ρ2 <;> rfl
/-! ### what a def promises -/
inductive RepMs (K : PySem.W.Frag) (F : Fz) (H : Hp) (O : Fz) : List V → List M → Prop
  | nil : RepMs K F H O [] []
  | cons {v : V} {vs : List V} {m : M} {ms : List M} : RepM K F H O v m → RepMs K F H O vs ms → RepMs K F H O (v :: vs) (m :: ms)
theorem RepMs.length : ∀ {vs : List V} {ms : List M}, RepMs K F H O vs ms → vs.length = ms.length
  | _, _, .nil => rfl
  | _, _, .cons a b => by simp [RepMs.length b]
theorem RepMs.get : ∀ {vs : List V} {ms : List M} {i : Nat} {m : M}, RepMs K F H O vs ms → ms[i]? = some m → ∃ v, vs[i]? = some v ∧ RepM K F H O v m
  | _, _, _, _, .nil, e => by simp at e
  | _, _, 0, _, .cons a b, e => by simp at e; subst e; exact ⟨_, rfl, a⟩
  | _, _, i + 1, _, .cons a b, e => by
    obtain ⟨v, h1, h2⟩ := RepMs.get (i := i) b (by simpa using e)
    exact ⟨v, by simpa using h1, h2⟩
structure ArgOk (K : PySem.W.Frag) (F : Fz) (H : Hp) (O : Fz) (vs : List V) (ms : List M) : Prop where
  rep : RepMs K F H O vs ms
  dom : ∀ a, F a → H a ≠ none
  odom : ∀ a, O a → H a ≠ none ∧ ¬ F a
  sep : ∀ (i j : Nat) (a : Addr) (m m' : M), i ≠ j → ms[i]? = some m → ms[j]? = some m' → m.isOwn = true → m'.isOwn = true → vs[i]? = some (.ref a) → vs[j]? = some (.ref a) → False
  only : ∀ a, O a → ∃ (i : Nat) (m : M), ms[i]? = some m ∧ m.isOwn = true ∧ vs[i]? = some (.ref a)
/-- from the heap at the call's start to that at its end -/
structure CallStp (F : Fz) (H : Hp) (O : Fz) (F' : Fz) (H' : Hp) : Prop where
  fz : ∀ a, F a → F' a
  fz' : ∀ a, F' a → F a ∨ H a = none
  dom : ∀ a, F' a → H' a ≠ none
  hp : ∀ a, H a ≠ none → ¬ O a → H' a = H a
  all : ∀ a, H a ≠ none → H' a ≠ none
def FinOk (K : PySem.W.Frag) (F' : Fz) (H' : Hp) (O : Fz) (vs : List V) (ms fin : List M) : Prop :=
  ∀ (i : Nat) (m m' : M) (v : V), ms[i]? = some m → m.isOwn = true → fin[i]? = some m' → vs[i]? = some v → RepM K F' H' O v m'
def ResOk (K : PySem.W.Frag) (H : Hp) (F' : Fz) (H' : Hp) (v : V) : M → Prop
  | .sh d => Dat K F' H' v d
  | .ol _ xs => ∃ a vs, v = .ref a ∧ ¬ F' a ∧ H a = none ∧ H' a = some (.lst vs) ∧ Dats K F' H' vs xs
  | .od _ ds => ∃ a kvs, v = .ref a ∧ ¬ F' a ∧ H a = none ∧ H' a = some (.dK kvs) ∧ Dats K F' H' (kvs.map fun p => kV p.1) (ds.map (·.1)) ∧ Dats K F' H' (kvs.map (·.2)) (ds.map (·.2))
  | .ob C fs => RepOb K F' H' v C fs
  | .sc _ => False
def WantC (K : PySem.W.Frag) (xr : XRep) (F : Fz) (H : Hp) (O : Fz) (vs : List V) (ms : List M) (o : FOut) (Q : VK) (E : XK) : Prop := match o with
  | .ret m fin => ∀ F' H' v, CallStp F H O F' H' → FinOk K F' H' O vs ms fin → ResOk K H F' H' v m → Q v H'
  | .ex x fin => ∀ F' H' cls d, CallStp F H O F' H' → FinOk K F' H' O vs ms fin → xr F' H' cls d x → E cls d H'
  | .no => False
def SpMi (K : PySem.W.Frag) (xr : XRep) (φ : List M → FOut) : Sp := fun vs H Q E => ∃ F O ms, ArgOk K F H O vs ms ∧ WantC K xr F H O vs ms (φ ms) Q E
end MI
namespace MI
open PySem PySem.Spec PyProof.Rows L2
variable {K : PySem.W.Frag} {F F' : Fz} {H H' : Hp} {O O' : Fz} {σ σ' : L2.St} {ρ ρ' : Env} {xr : XRep} {W : WX}
def M.pin : M → M
  | .ol _ xs => .ol true xs
  | .od _ xs => .od true xs
  | m => m
inductive Pick (K : PySem.W.Frag) (all : List V) : List Arg → List V → Prop
  | nil : Pick K all [] []
  | e {k : Nat} {v : V} {src : List Arg} {out : List V} : all[k]? = some v → Pick K all src out → Pick K all (.e k :: src) (v :: out)
  | d {x : D} {v : V} {src : List Arg} {out : List V} : (∀ F H, Dat K F H v x) → Pick K all src out → Pick K all (.d x :: src) (v :: out)
inductive Handed (K : PySem.W.Frag) (F : Fz) (H : Hp) (σ : L2.St) (ρ : Env) : List (Option Nat) → List M → List V → Prop
  | nil : Handed K F H σ ρ [] [] []
  | own {j : Nat} {v : V} {m0 : M} {os : List (Option Nat)} {ms : List M} {out : List V} : ρ.get j = some m0 → m0.isOwn = true → σ[j]? = some (some v) → Handed K F H σ ρ os ms out → Handed K F H σ ρ (some j :: os) (m0.pin :: ms) (v :: out)
  | oth {v : V} {m : M} {os : List (Option Nat)} {ms : List M} {out : List V} : m.isOwn = false → (∀ O, RepM K F H O v m) → Handed K F H σ ρ os ms out → Handed K F H σ ρ (none :: os) (m :: ms) (v :: out)
theorem handed {H0 : Hp} {all : List V} {rs : List R} (S : StI K F H O σ ρ) (hr : RepRs K H0 F H O σ all rs) : ∀ {src : List Arg} {ms : List M} {out : List V}, argsOf ρ rs src = some ms → Pick K all src out → Handed K F H σ ρ (ownsOf ρ rs src) ms out
  | [], _, _, e, p => by
    cases p
    cases e
    exact .nil
  | .d x :: src, _, _, e, p => by
    cases p with
    | d hd p =>
      simp only [argsOf, Option.map_eq_some_iff] at e
      obtain ⟨ms', e1, rfl⟩ := e
      exact .oth rfl (fun O => hd F H) (handed S hr e1 p)
  | .e k :: src, _, _, e, p => by
    cases p with
    | e hk p =>
      simp only [argsOf, Option.bind_eq_some_iff, Option.map_eq_some_iff] at e
      obtain ⟨r, hrk, m, hm, ms', e1, rfl⟩ := e
      have rest := handed S hr e1 p
      obtain ⟨v', hv', rr⟩ := hr.get hrk
      have : v' = _ := Option.some.inj (hv'.symm.trans hk)
      subst this
      unfold ownsOf
      rw [hrk]
      cases r with
      | val d => cases hm; exact .oth rfl (fun O => rr) rest
      | new xs => cases hm
      | newd xs => cases hm
      | ob C fs => cases hm; exact .oth rfl (fun O => rr) rest
      | sc ns => cases hm; exact .oth rfl (fun O => rr) rest
      | own i =>
        change (ρ.get i).bind _ = some m at hm
        cases q : ρ.get i with
        | none => rw [q] at hm; cases hm
        | some m0 =>
          rw [q] at hm
          obtain ⟨w, hw, rm⟩ := S.var i m0 q
          have ew : w = v' := by
            have := hw.symm.trans rr
            simpa using this
          subst ew
          cases m0 with
          | sh d =>
            cases hm
            show Handed K F H σ ρ ((if ((ρ.get i).map M.isOwn).getD false then some i else none) :: ownsOf ρ rs src) _ _
            rw [q]
            exact .oth rfl (fun O => rm) rest
          | ol p' xs =>
            cases hm
            show Handed K F H σ ρ ((if ((ρ.get i).map M.isOwn).getD false then some i else none) :: ownsOf ρ rs src) _ _
            have : (if ((ρ.get i).map M.isOwn).getD false then some i else none) = some i := by rw [q]; rfl
            rw [this]
            exact .own (m0 := .ol p' xs) q rfl hw rest
          | od p' xs =>
            cases hm
            show Handed K F H σ ρ ((if ((ρ.get i).map M.isOwn).getD false then some i else none) :: ownsOf ρ rs src) _ _
            have : (if ((ρ.get i).map M.isOwn).getD false then some i else none) = some i := by rw [q]; rfl
            rw [this]
            exact .own (m0 := .od p' xs) q rfl hw rest
          | ob C fs =>
            cases hm
            show Handed K F H σ ρ ((if ((ρ.get i).map M.isOwn).getD false then some i else none) :: ownsOf ρ rs src) _ _
            rw [q]
            exact .oth rfl (fun O => rm) rest
          | sc ns =>
            cases hm
            show Handed K F H σ ρ ((if ((ρ.get i).map M.isOwn).getD false then some i else none) :: ownsOf ρ rs src) _ _
            rw [q]
            exact .oth rfl (fun O => rm) rest
theorem pin_own {m : M} : m.pin.isOwn = m.isOwn := by cases m <;> rfl
theorem Handed.at : ∀ {os : List (Option Nat)} {ms : List M} {out : List V} {i j : Nat}, Handed K F H σ ρ os ms out → os[i]? = some (some j) → ∃ m0 v, ρ.get j = some m0 ∧ m0.isOwn = true ∧ σ[j]? = some (some v) ∧ ms[i]? = some m0.pin ∧ out[i]? = some v
  | _, _, _, _, _, .nil, e => by simp at e
  | _, _, _, 0, _, .own a b c h, e => by simp at e; subst e; exact ⟨_, _, a, b, c, rfl, rfl⟩
  | _, _, _, 0, _, .oth a b h, e => by simp at e
  | _, _, _, i + 1, _, .own a b c h, e => by simpa using Handed.at (i := i) h (by simpa using e)
  | _, _, _, i + 1, _, .oth a b h, e => by simpa using Handed.at (i := i) h (by simpa using e)
theorem Handed.own_at : ∀ {os : List (Option Nat)} {ms : List M} {out : List V} {i : Nat} {m : M}, Handed K F H σ ρ os ms out → ms[i]? = some m → m.isOwn = true → ∃ j, os[i]? = some (some j)
  | _, _, _, _, _, .nil, e, _ => by simp at e
  | _, _, _, 0, _, .own a b c h, e, _ => ⟨_, rfl⟩
  | _, _, _, 0, _, .oth a b h, e, o => by simp at e; subst e; rw [a] at o; cases o
  | _, _, _, i + 1, _, .own a b c h, e, o => by simpa using Handed.own_at (i := i) h (by simpa using e) o
  | _, _, _, i + 1, _, .oth a b h, e, o => by simpa using Handed.own_at (i := i) h (by simpa using e) o
theorem Handed.rep {Oc : Fz} (h : ∀ j m0 v, ρ.get j = some m0 → m0.isOwn = true → σ[j]? = some (some v) → RepM K F H Oc v m0.pin) : ∀ {os : List (Option Nat)} {ms : List M} {out : List V}, (∀ j, some j ∈ os → some j ∈ os) → Handed K F H σ ρ os ms out → RepMs K F H Oc out ms
  | _, _, _, _, .nil => .nil
  | _, _, _, _, .own a b c r => .cons (h _ _ _ a b c) (Handed.rep h (fun _ h => h) r)
  | _, _, _, _, .oth a b r => .cons (b Oc) (Handed.rep h (fun _ h => h) r)
/-- the addresses that are lent -/
def Lent (σ : L2.St) (os : List (Option Nat)) : Fz := fun a => ∃ j, some j ∈ os ∧ σ[j]? = some (some (.ref a))
theorem Handed.mem {os : List (Option Nat)} {ms : List M} {out : List V} (h : Handed K F H σ ρ os ms out) {j : Nat} (m : some j ∈ os) : ∃ m0 v, ρ.get j = some m0 ∧ m0.isOwn = true ∧ σ[j]? = some (some v) := by
  obtain ⟨i, hi⟩ := List.mem_iff_getElem?.mp m
  obtain ⟨m0, v, h1, h2, h3, _⟩ := h.at hi
  exact ⟨m0, v, h1, h2, h3⟩
theorem lent_own {os : List (Option Nat)} {ms : List M} {out : List V} {a : Addr} (S : StI K F H O σ ρ) (h : Handed K F H σ ρ os ms out) (l : Lent σ os a) : O a := by
  obtain ⟨j, hj, e⟩ := l
  obtain ⟨m0, v, h1, h2, h3⟩ := h.mem hj
  obtain ⟨u, g1, g2⟩ := S.var j m0 h1
  obtain ⟨b, e1, ob⟩ := g2.own h2
  rw [e] at g1
  cases g1
  cases e1
  exact ob
theorem os_inj {os : List (Option Nat)} (nd : (os.filterMap id).Nodup) {i k j : Nat} (h1 : os[i]? = some (some j)) (h2 : os[k]? = some (some j)) : i = k := by
  induction os generalizing i k with
  | nil => simp at h1
  | cons o os ih =>
    have nd' : (os.filterMap id).Nodup := by
      cases o with
      | none => simpa using nd
      | some x => exact (List.nodup_cons.mp (by simpa using nd)).2
    have nmem : ∀ n, os[n]? = some (some j) → o ≠ some j := fun n hn e => by
      subst e
      have : j ∉ os.filterMap id := (List.nodup_cons.mp (by simpa using nd)).1
      exact this (List.mem_filterMap.mpr ⟨some j, List.mem_iff_getElem?.mpr ⟨n, hn⟩, rfl⟩)
    cases i with
    | zero =>
      cases k with
      | zero => rfl
      | succ k => exact absurd (by simpa using h1) (nmem k (by simpa using h2))
    | succ i =>
      cases k with
      | zero => exact absurd (by simpa using h2) (nmem i (by simpa using h1))
      | succ k => rw [ih nd' (i := i) (k := k) (by simpa using h1) (by simpa using h2)]
theorem arg_ok {os : List (Option Nat)} {ms : List M} {out : List V} (S : StI K F H O σ ρ) (nd : (os.filterMap id).Nodup) (h : Handed K F H σ ρ os ms out) : ArgOk K F H (Lent σ os) out ms where
  rep := by
    have key : ∀ {os' : List (Option Nat)} {ms : List M} {out : List V}, (∀ j, some j ∈ os' → some j ∈ os) → Handed K F H σ ρ os' ms out → RepMs K F H (Lent σ os) out ms := by
      intro os' ms out sub h
      induction h with
      | nil => exact .nil
      | @own j v m0 os1 ms1 out1 a b c r ih =>
        refine .cons ?_ (ih fun j hj => sub j (List.mem_cons_of_mem _ hj))
        have lm : some j ∈ os := sub j List.mem_cons_self
        obtain ⟨u, g1, g2⟩ := S.var j m0 a
        rw [c] at g1
        cases g1
        cases m0 with
        | ol p xs =>
          obtain ⟨q, vs, rfl, oq, hq, dq⟩ := g2
          exact ⟨q, vs, rfl, ⟨j, lm, c⟩, hq, dq⟩
        | od p xs =>
          obtain ⟨q, vs, rfl, oq, hq, dq, dq2⟩ := g2
          exact ⟨q, vs, rfl, ⟨j, lm, c⟩, hq, dq, dq2⟩
        | sh d => cases b
        | ob C fs => cases b
        | sc ns => cases b
      | oth a b r ih => exact .cons (b _) (ih fun j hj => sub j (List.mem_cons_of_mem _ hj))
    exact key (fun _ h => h) h
  dom := S.dom
  odom := fun a l => S.odom a (lent_own S h l)
  sep := fun i k a m m' ne e1 e2 o1 o2 v1 v2 => by
    obtain ⟨j1, h1⟩ := h.own_at e1 o1
    obtain ⟨j2, h2⟩ := h.own_at e2 o2
    obtain ⟨m1, w1, a1, b1, c1, _, d1⟩ := h.at h1
    obtain ⟨m2, w2, a2, b2, c2, _, d2⟩ := h.at h2
    rw [v1] at d1
    rw [v2] at d2
    cases d1
    cases d2
    have nj : j1 ≠ j2 := fun e => by
      subst e
      exact ne (os_inj nd h1 h2)
    exact S.sep j1 j2 a m1 m2 nj a1 a2 b1 b2 c1 c2
  only := fun a l => by
    obtain ⟨j, hj, e⟩ := l
    obtain ⟨i, hi⟩ := List.mem_iff_getElem?.mp hj
    obtain ⟨m0, v, h1, h2, h3, h4, h5⟩ := h.at hi
    rw [e] at h3
    cases h3
    exact ⟨i, _, h4, by rw [pin_own]; exact h2, h5⟩
/-! ### what comes back -/
def mix (m0 m' : M) : Option M := match some m0, m' with
  | some (.ol p _), .ol _ xs => some (.ol p xs)
  | some (.od p _), .od _ kvs => some (.od p kvs)
  | _, _ => none
theorem backOf_len : ∀ (os : List (Option Nat)) (fin : List M) (ρ : Env), (backOf ρ os fin).length = ρ.length
  | [], _, _ => rfl
  | some i :: os, [], _ => rfl
  | none :: os, [], _ => rfl
  | some i :: os, m :: fin, ρ => by unfold backOf; rw [backOf_len os fin]; simp
  | none :: os, m :: fin, ρ => by unfold backOf; exact backOf_len os fin ρ
theorem backOf_out {j : Nat} : ∀ (os : List (Option Nat)) (fin : List M) (ρ : Env), some j ∉ os → Env.get (backOf ρ os fin) j = ρ.get j
  | [], _, _, _ => rfl
  | some i :: os, [], _, _ => rfl
  | none :: os, [], _, _ => rfl
  | some i :: os, m :: fin, ρ, h => by
    simp only [List.mem_cons, not_or] at h
    unfold backOf
    rw [backOf_out os fin _ h.2, get_set_ne fun e => h.1 (by rw [e])]
  | none :: os, m :: fin, ρ, h => by
    simp only [List.mem_cons, not_or] at h
    unfold backOf
    exact backOf_out os fin ρ h.2
theorem backOf_in {j : Nat} {m0 m' : M} : ∀ (os : List (Option Nat)) (fin : List M) (ρ : Env) (i : Nat), (os.filterMap id).Nodup → os[i]? = some (some j) → fin[i]? = some m' → ρ.get j = some m0 → Env.get (backOf ρ os fin) j = mix m0 m'
  | [], _, _, _, _, h, _, _ => by simp at h
  | some k :: os, [], _, _, _, _, h, _ => by simp at h
  | none :: os, [], _, _, _, _, h, _ => by simp at h
  | some k :: os, m :: fin, ρ, 0, nd, h, f, g => by
    simp at h f
    subst h f
    have nm : k ∉ os.filterMap id := (List.nodup_cons.mp (by simpa using nd)).1
    unfold backOf
    rw [backOf_out os fin _ fun q => nm (List.mem_filterMap.mpr ⟨some k, q, rfl⟩), get_set_self (get_lt g), g]
    rfl
  | none :: os, m :: fin, ρ, 0, nd, h, f, g => by simp at h
  | some k :: os, m :: fin, ρ, i + 1, nd, h, f, g => by
    have nd' := List.nodup_cons.mp (show (k :: os.filterMap id).Nodup by simpa using nd)
    have h' : os[i]? = some (some j) := by simpa using h
    have ne : k ≠ j := fun e => nd'.1 (List.mem_filterMap.mpr ⟨some j, List.mem_iff_getElem?.mpr ⟨i, h'⟩, by rw [e]; rfl⟩)
    unfold backOf
    exact backOf_in os fin _ i nd'.2 h' (by simpa using f) ((get_set_ne ne).trans g)
  | none :: os, m :: fin, ρ, i + 1, nd, h, f, g => by
    unfold backOf
    exact backOf_in os fin ρ i (by simpa using nd) (by simpa using h) (by simpa using f) g
theorem kinds_at : ∀ {ms fin : List M} {i : Nat} {m0 : M}, kinds ms fin = true → ms[i]? = some m0.pin → m0.isOwn = true → ∃ m' m'', fin[i]? = some m' ∧ mix m0 m' = some m'' ∧ m''.isOwn = true ∧ m''.pinned = m0.pinned ∧ ∀ {F : Fz} {H : Hp} {O O' : Fz} {v : V}, (∀ a, O a → O' a) → RepM K F H O v m' → RepM K F H O' v m''
  | [], _, _, _, _, e, _ => by simp at e
  | m :: ms, [], _, _, k, _, _ => by simp [kinds] at k
  | m :: ms, m' :: fin, 0, m0, k, e, o => by
    simp at e
    subst e
    unfold kinds at k
    rw [Bool.and_eq_true] at k
    cases m0 with
    | ol p xs =>
      cases m' with
      | ol q ys => exact ⟨_, _, rfl, rfl, rfl, rfl, fun sub h => by obtain ⟨a, vs, e, o, h1, h2⟩ := h; exact ⟨a, vs, e, sub a o, h1, h2⟩⟩
      | od q ys => cases k.1
      | sh d => cases k.1
      | ob C fs => cases k.1
      | sc ns => cases k.1
    | od p xs =>
      cases m' with
      | od q ys => exact ⟨_, _, rfl, rfl, rfl, rfl, fun sub h => by obtain ⟨a, vs, e, o, h1, h2, h3⟩ := h; exact ⟨a, vs, e, sub a o, h1, h2, h3⟩⟩
      | ol q ys => cases k.1
      | sh d => cases k.1
      | ob C fs => cases k.1
      | sc ns => cases k.1
    | sh d => cases o
    | ob C fs => cases o
    | sc ns => cases o
  | m :: ms, m' :: fin, i + 1, m0, k, e, o => by
    unfold kinds at k
    rw [Bool.and_eq_true] at k
    obtain ⟨m1, m2, h1, h2⟩ := kinds_at (i := i) k.2 (by simpa using e) o
    exact ⟨m1, m2, by simpa using h1, h2⟩
theorem back_ok {os : List (Option Nat)} {ms fin : List M} {out : List V} (S : StI K F H O σ ρ) (nd : (os.filterMap id).Nodup) (h : Handed K F H σ ρ os ms out) (kd : kinds ms fin = true) (C : CallStp F H (Lent σ os) F' H') (fo : FinOk K F' H' (Lent σ os) out ms fin) :
    StI K F' H' O σ (backOf ρ os fin) ∧ Stp F H O F' H' O ∧ Pin ρ (backOf ρ os fin) := by
  have sub : ∀ a, Lent σ os a → O a := fun a l => lent_own S h l
  have xt : Ext F H F' H' := fun a f => ⟨C.fz a f, C.hp a (S.dom a f) fun l => (S.odom a (sub a l)).2 f⟩
  -- each name: lent, or as it was
  have cas : ∀ j, (∃ (i : Nat) (m0 m' m'' : M) (v : V), os[i]? = some (some j) ∧ ρ.get j = some m0 ∧ m0.isOwn = true ∧ σ[j]? = some (some v) ∧ Env.get (backOf ρ os fin) j = some m'' ∧ m''.isOwn = true ∧ m''.pinned = m0.pinned ∧ RepM K F' H' O v m'') ∨ (some j ∉ os ∧ Env.get (backOf ρ os fin) j = ρ.get j) := by
    intro j
    by_cases hj : some j ∈ os
    · obtain ⟨i, hi⟩ := List.mem_iff_getElem?.mp hj
      obtain ⟨m0, v, h1, h2, h3, h4, h5⟩ := h.at hi
      obtain ⟨m', m'', k1, k2, k3, k4, k5⟩ := kinds_at (K := K) kd h4 h2
      exact .inl ⟨i, m0, m', m'', v, hi, h1, h2, h3, (backOf_in os fin ρ i nd hi k1 h1).trans k2, k3, k4, k5 sub (fo i _ m' v h4 (by rw [pin_own]; exact h2) k1 h5)⟩
    · exact .inr ⟨hj, backOf_out os fin ρ hj⟩
  refine ⟨⟨by rw [backOf_len]; exact S.len, fun j m e => ?_, C.dom, fun a o => ⟨C.all a (S.odom a o).1, fun f => ?_⟩, fun i j a m m' ne e1 e2 o1 o2 v1 v2 => ?_⟩, ⟨C.fz, fun a f => ?_, fun a o => .inl o, fun a n no => C.hp a n fun l => no (sub a l), C.all⟩, backOf_len os fin ρ, fun j m e p => ?_⟩
  · rcases cas j with ⟨i, m0, m', m'', v, h1, h2, h3, h4, h5, h6, h7, h8⟩ | ⟨hj, h2⟩
    · rw [h5] at e
      cases e
      exact ⟨v, h4, h8⟩
    · rw [h2] at e
      obtain ⟨v, g1, g2⟩ := S.var j m e
      refine ⟨v, g1, ?_⟩
      have far : ∀ a, v = .ref a → m.isOwn = true → ¬ Lent σ os a := fun a ev om ⟨j', hj', ej'⟩ => by
        obtain ⟨m1, v1, q1, q2, q3⟩ := h.mem hj'
        subst ev
        exact S.sep j j' a m m1 (fun e => hj (e ▸ hj')) e q1 om q2 g1 ej'
      cases m with
      | sh d => exact Dat.ext xt g2
      | ol p xs =>
        obtain ⟨a, vs, ev, oa, ha, hd⟩ := g2
        exact ⟨a, vs, ev, oa, (C.hp a (by rw [ha]; simp) (far a ev rfl)).trans ha, Dats.ext xt hd⟩
      | od p xs =>
        obtain ⟨a, vs, ev, oa, ha, hd, hd2⟩ := g2
        exact ⟨a, vs, ev, oa, (C.hp a (by rw [ha]; simp) (far a ev rfl)).trans ha, Dats.ext xt hd, Dats.ext xt hd2⟩
      | ob C fs => exact RepOb.ext xt g2
      | sc ns =>
        obtain ⟨a, ev, q⟩ := g2
        rcases q with ⟨f, r⟩ | r
        · exact ⟨a, ev, .inl ⟨(xt a f).1, Rd.ext (xt a f).2 r⟩⟩
        · exact ⟨a, ev, .inr r⟩
  · rcases C.fz' a f with q | q
    · exact (S.odom a o).2 q
    · exact (S.odom a o).1 q
  · have own : ∀ j m, Env.get (backOf ρ os fin) j = some m → m.isOwn = true → ∃ m1, ρ.get j = some m1 ∧ m1.isOwn = true := fun j m e o => by
      rcases cas j with ⟨i, m0, m', m'', v, h1, h2, h3, h4, h5, h6, h7, h8⟩ | ⟨hj, h2⟩
      · exact ⟨m0, h2, h3⟩
      · rw [h2] at e; exact ⟨m, e, o⟩
    obtain ⟨m1, c1, d1⟩ := own i m e1 o1
    obtain ⟨m2, c2, d2⟩ := own j m' e2 o2
    exact S.sep i j a m1 m2 ne c1 c2 d1 d2 v1 v2
  · rcases C.fz' a f with q | q
    · exact .inl q
    · exact .inr (.inl q)
  · rcases cas j with ⟨i, m0, m', m'', v, h1, h2, h3, h4, h5, h6, h7, h8⟩ | ⟨hj, h2⟩
    · rw [h2] at e
      cases e
      exact ⟨m'', h5, h7.trans p⟩
    · exact ⟨m, h2.trans e, p⟩
theorem res_ok {H0 : Hp} {v : V} {m : M} (S : StI K F H O σ ρ) (h0 : ∀ a, H a = none → H0 a = none) (h : ResOk K H F' H' v m) : RepR K H0 F' H' O σ v m.res := by
  cases m with
  | sh d => exact h
  | ol p xs =>
    obtain ⟨a, vs, e, nf, n, ha, hd⟩ := h
    exact ⟨a, vs, e, nf, fun o => (S.odom a o).1 n, h0 a n, ha, hd⟩
  | od p xs =>
    obtain ⟨a, vs, e, nf, n, ha, hd, hd2⟩ := h
    exact ⟨a, vs, e, nf, fun o => (S.odom a o).1 n, h0 a n, ha, hd, hd2⟩
  | ob C fs => exact h
  | sc ns => exact h.elim
section
variable {X : Cx} {cx : Cxt}
theorem call_run {n m : Nat} {f : Nat} {t tk : TA} {gV : List V → List V → List V} {xs ys : List Ex} {refs : List Bool} {src : List Arg} (ka : RunR X xr W t (evRs cx xs refs)) (kb : RunR X xr W tk (evRs cx ys (refs.drop xs.length)))
    (l1 : ∀ {ρ ρ' rs}, evRs cx xs refs ρ = .ok rs ρ' → rs.length = n) (l2 : ∀ {ρ ρ' rs}, evRs cx ys (refs.drop xs.length) ρ = .ok rs ρ' → rs.length = m)
    (hp : ∀ vs zs : List V, vs.length = n → zs.length = m → Pick X.K (vs ++ zs) src (gV vs zs)) : RunE X xr W (tCallM n m (SpMi X.K xr (cx.φ f)) gV W t tk) (evE cx (.call f (xs ++ ys) refs src)) := by
  intro F H O σ ρ Q S w
  simp only [evE] at w
  rw [evRs_append, bindA] at w
  cases e1 : evRs cx xs refs ρ with
  | no => rw [e1] at w; exact w.elim
  | ex z ρ1 => 
    rw [e1] at w
    exact ka F H O σ ρ _ S (by rw [e1]; exact w)
  | ok rs ρ1 =>
    rw [e1] at w
    refine ka F H O σ ρ _ S ?_
    rw [e1]
    intro F1 H1 O1 vs S1 t1 p1 r1
    have w1 : WantE X.K xr W σ F H O ρ (((evRs cx ys (refs.drop xs.length) ρ1).bind fun ss ρ => .ok (rs ++ ss) ρ).bind fun rs ρ => callR cx f rs src ρ) Q := w
    rw [bindA] at w1
    cases e2 : evRs cx ys (refs.drop xs.length) ρ1 with
    | no => rw [e2] at w1; exact w1.elim
    | ex z ρ2 =>
      rw [e2] at w1
      refine kb F1 H1 O1 σ ρ1 _ S1 ?_
      rw [e2]
      exact fun F2 H2 O2 c d S2 t2 p2 r2 => w1 F2 H2 O2 c d S2 (t1.trans t2) (p1.trans p2) r2
    | ok ss ρ2 =>
      rw [e2] at w1
      refine kb F1 H1 O1 σ ρ1 _ S1 ?_
      rw [e2]
      intro F2 H2 O2 zs S2 t12 p12 r2
      have lv : vs.length = n := by rw [r1.length]; exact l1 e1
      have lz : zs.length = m := by rw [r2.length]; exact l2 e2
      refine ⟨lv, lz, ?_⟩
      have w2 : WantE X.K xr W σ F H O ρ (callR cx f (rs ++ ss) src ρ2) Q := w1
      have rr : RepRs X.K H F2 H2 O2 σ (vs ++ zs) (rs ++ ss) := (r1.stp S1 t12).append (r2.from fun a e => t1.none e)
      have t2 := t1.trans t12
      have p2 := p1.trans p12
      unfold callR at w2
      cases ea : argsOf ρ2 (rs ++ ss) src with
      | none => rw [ea] at w2; exact w2.elim
      | some ms =>
        rw [ea] at w2
        dsimp only at w2
        split at w2
        · rename_i hnd
          have hh := handed S2 rr ea (hp vs zs lv lz)
          refine ⟨F2, Lent σ (ownsOf ρ2 (rs ++ ss) src), ms, arg_ok S2 hnd.1 hh, ?_⟩
          cases ef : cx.φ f ms with
          | no => rw [ef] at w2; exact w2.elim
          | ret m fin =>
            rw [ef] at w2
            dsimp only at w2
            split at w2
            · rename_i kd
              intro F3 H3 v C fo ro
              obtain ⟨S3, t3, p3⟩ := back_ok S2 hnd.1 hh kd C fo
              exact w2 F3 H3 O2 v S3 (t2.trans t3) (p2.trans p3) (res_ok S2 (fun a e => t2.none e) ro)
            · exact w2.elim
          | ex x fin =>
            rw [ef] at w2
            dsimp only at w2
            split at w2
            · rename_i kd
              intro F3 H3 cls d C fo ro
              obtain ⟨S3, t3, p3⟩ := back_ok S2 hnd.1 hh kd C fo
              exact w2 F3 H3 O2 cls d S3 (t2.trans t3) (p2.trans p3) ro
            · exact w2.elim
        · exact w2.elim
end
end MI
namespace MI
open PySem PySem.Spec PyProof.Rows L2
variable {K : PySem.W.Frag} {F F' : Fz} {H H' : Hp} {O O' : Fz} {σ σ' : L2.St} {ρ ρ' : Env} {xr : XRep} {W : WX}
/-- a def by its body -/
theorem fnG_of {P : Program} {w : World} {K : PySem.W.Frag} {mg : Str → Option Value} {base : Heap} {k : Nat} {f : Addr} {name qual : Str} {params : Arguments} {body : List Stmt} {scope : Scope} {dV kV doc pm cdv ct oc : Value} {an od : Option Addr}
    {osl : Array (Option Value)} {N ps : List Str} {sp : Sp} (lk : K.lookup f = some ⟨oc, od, .func (PySem.W.fnOf name qual params body scope dV kV doc pm an cdv ct), osl⟩) (hcd : PySem.W.codeIn K cdv qual = true) (S : FnScope N ps scope)
    (len : ∀ vs H Q E, sp vs H Q E → vs.length = ps.length)
    (hbody : ∀ (A : Around) (outer : List PySem.Env) (s : Shared) (H : Hp) (vs : List V) (Q : VK) (E : XK), A.guards = some [] → Room k (A.deeper (envOfC qual scope s.heap.objs.size f cdv)) → sp vs H Q E →
      ∃ t, PSs (cxOf (L2.CX P w) P w K mg base N qual scope f cdv A outer s H E) body t ∧ t { nx := fun _ H' => Q .non H', rt := Q } (start N vs) H) :
    FnG P w K mg base (k + 1) f (PySem.W.fnOf name qual params body scope dV kV doc pm an cdv ct) ps sp := by
  constructor
  · exact len
  intro A outer s H args us vs Q E hg hr e0 hb r hsp
  have hl := len vs H Q E hsp
  have KX : K.In s.heap := e0.mod.kin.keeps fun b o e => (e0.bs b o e).1
  have kinds : ∀ y ∈ ps.zip us, scope.names.lookup y.1 = some .local ∨ (scope.names.lookup y.1 = some .cell ∧ ((cellsFrom (s.heap.objs.size + 1) scope.names []).lookup y.1).isSome = true) := by
    rintro ⟨n, v⟩ hy
    exact (S.par n (List.of_mem_zip hy).1).imp (fun q => q) fun q => ⟨q, PySem.W.cellsFrom_some _ _ _ (.inl q)⟩
  apply codeAny_call_function hr.depth (KX _ _ lk) rfl S.co S.gen rfl (PySem.W.codeRec_of KX hcd)
  apply hb
  apply wpAny_newFunctionEnv_cells S.kind kinds
  intro env he s1 x
  subst he
  have lim : s.heap.NoLimit := e0.mod.nolimit.keeps fun b o e => (e0.bs b o e).1
  refine ⟨lim.keeps x.toInCall.keep, codeAny_func ?_⟩
  obtain ⟨t, ht, hq⟩ := hbody A outer s H vs Q E hg (hr.deeper _) hsp
  apply wpAny_mono (ht.run [] s1 (start N vs) H _ (inv_start S hr.hd e0 hl r x) hq)
  · intro fl s' hs
    match fl, hs with
    | .ret u, ⟨v, σ', H', J, rv, q⟩ => exact ⟨v, H', J.os, J.bare, J.base, J.hok, rv, q⟩
    | .next, ⟨σ', H', J, q⟩ => exact ⟨.non, H', J.os, J.bare, J.base, J.hok, rfl, q⟩
    | .brk, ⟨_, _, _, q⟩ => exact q.elim
    | .cont, ⟨_, _, _, q⟩ => exact q.elim
  · exact fun e s' hs => hs
/-! ### a body keeps its def's promise -/
theorem finOf_at : ∀ {ms fin : List M} {n i : Nat} {m m' : M}, finOf ρ ms n = some fin → ms[i]? = some m → m.isOwn = true → fin[i]? = some m' → ρ.get (n + i) = some m' ∧ m'.pinned = true
  | [], _, _, _, _, _, _, h, _, _ => by simp at h
  | a :: ms, fin, n, i, m, m', e, h, o, hf => by
    simp only [finOf, Option.bind_eq_some_iff, Option.map_eq_some_iff] at e
    obtain ⟨x, ex, fin', ef, rfl⟩ := e
    cases i with
    | zero =>
      simp at h hf
      subst h hf
      rw [if_pos o] at ex
      simp only [Option.bind_eq_some_iff] at ex
      obtain ⟨y, h1, h2⟩ := ex
      obtain ⟨h3, h4⟩ := gd_some h2
      subst h4
      exact ⟨h1, h3⟩
    | succ i =>
      have := finOf_at (i := i) ef (by simpa using h) o (by simpa using hf)
      rw [← Nat.add_assoc, Nat.add_right_comm]
      exact this
theorem pinned_own {m : M} (h : m.pinned = true) : m.isOwn = true := by cases m <;> first | rfl | cases h
theorem start_get {N : List Str} {vs : List V} {i : Nat} (h : i < vs.length) : (start N vs)[i]? = (vs[i]?).map some := by
  unfold L2.start
  rw [List.getElem?_append_left (by simpa using h), List.getElem?_map]
theorem env0_get {ms : List M} {n i : Nat} : Env.get (ms.map some ++ List.replicate n none) i = ms[i]? := by
  unfold Env.get
  by_cases h : i < ms.length
  · rw [List.getElem?_append_left (by simpa using h), List.getElem?_map]
    cases ms[i]? <;> rfl
  · rw [List.getElem?_append_right (by simpa using h), List.getElem?_replicate, List.getElem?_eq_none (by omega)]
    split <;> rfl
theorem start_ok {N : List Str} {vs : List V} {ms : List M} {n : Nat} (A : ArgOk K F H O vs ms) (hn : N.length = ms.length + n) : StI K F H O (start N vs) (ms.map some ++ List.replicate n none) := by
  have hl := A.rep.length
  refine ⟨?_, fun i m e => ?_, A.dom, A.odom, fun i j a m m' ne e1 e2 o1 o2 v1 v2 => ?_⟩
  · unfold L2.start
    simp
    omega
  · rw [env0_get] at e
    obtain ⟨v, h1, h2⟩ := A.rep.get e
    have hi : i < vs.length := (List.getElem?_eq_some_iff.mp h1).1
    exact ⟨v, by rw [start_get hi, h1]; rfl, h2⟩
  · rw [env0_get] at e1 e2
    obtain ⟨u1, g1, _⟩ := A.rep.get e1
    obtain ⟨u2, g2, _⟩ := A.rep.get e2
    have hi : i < vs.length := (List.getElem?_eq_some_iff.mp g1).1
    have hj : j < vs.length := (List.getElem?_eq_some_iff.mp g2).1
    rw [start_get hi, g1] at v1
    rw [start_get hj, g2] at v2
    cases v1
    cases v2
    exact A.sep i j a m m' ne e1 e2 o1 o2 g1 g2
section
variable {N : List Str} {vs : List V} {ms : List M} {n : Nat}
/-- a lent thing, behind the body -/
theorem lent_end (A : ArgOk K F H O vs ms) (hp : (ms.all fun m => !m.isOwn || m.pinned) = true) (S : StI K F' H' O' σ' ρ') (p : PinS (start N vs) (ms.map some ++ List.replicate n none) σ' ρ') {i : Nat} {m : M} {v : V} (e : ms[i]? = some m) (o : m.isOwn = true) (hv : vs[i]? = some v) :
    ∃ m', ρ'.get i = some m' ∧ m'.pinned = true ∧ σ'[i]? = some (some v) ∧ RepM K F' H' O' v m' := by
  have pm : m.pinned = true := by
    have := List.all_eq_true.mp hp m (List.mem_of_getElem? e)
    simpa [o] using this
  have hi : i < vs.length := (List.getElem?_eq_some_iff.mp hv).1
  obtain ⟨m', h1, h2⟩ := p.pin.2 i m (by rw [env0_get]; exact e) pm
  have h3 := p.sl i m (by rw [env0_get]; exact e) pm
  rw [start_get hi, hv] at h3
  obtain ⟨u, g1, g2⟩ := S.var i m' h1
  rw [h3] at g1
  cases g1
  exact ⟨m', h1, h2, h3, g2⟩
theorem call_stp (A : ArgOk K F H O vs ms) (hp : (ms.all fun m => !m.isOwn || m.pinned) = true) (S : StI K F' H' O' σ' ρ') (p : PinS (start N vs) (ms.map some ++ List.replicate n none) σ' ρ') (t : Stp F H O F' H' O') : CallStp F H O F' H' where
  fz := t.fz
  fz' := fun a f => by
    rcases t.fz' a f with q | q | q
    · exact .inl q
    · exact .inr q
    · obtain ⟨i, m, e, o, hv⟩ := A.only a q
      obtain ⟨m', h1, h2, h3, h4⟩ := lent_end A hp S p e o hv
      obtain ⟨b, eb, ob⟩ := h4.own (pinned_own h2)
      cases eb
      exact ((S.odom a ob).2 f).elim
  dom := S.dom
  hp := t.hp
  all := t.all
theorem fin_ok {fin : List M} (A : ArgOk K F H O vs ms) (hp : (ms.all fun m => !m.isOwn || m.pinned) = true) (S : StI K F' H' O' σ' ρ') (p : PinS (start N vs) (ms.map some ++ List.replicate n none) σ' ρ') (e : finOf ρ' ms 0 = some fin) : FinOk K F' H' O vs ms fin := by
  intro i m m' v em om ef hv
  obtain ⟨m1, h1, h2, h3, h4⟩ := lent_end A hp S p em om hv
  obtain ⟨h5, h6⟩ := finOf_at e em om ef
  rw [Nat.zero_add, h1] at h5
  cases h5
  obtain ⟨u, g1, g2⟩ := A.rep.get em
  rw [hv] at g1
  cases g1
  obtain ⟨a, rfl, oa⟩ := g2.own om
  cases m' with
  | ol q xs =>
    obtain ⟨b, ws, eb, _, hb, hd⟩ := h4
    cases eb
    exact ⟨a, ws, rfl, oa, hb, hd⟩
  | od q xs =>
    obtain ⟨b, ws, eb, _, hb, hd, hd2⟩ := h4
    cases eb
    exact ⟨a, ws, rfl, oa, hb, hd, hd2⟩
  | sh d => cases h2
  | ob C fs => cases h2
  | sc ns => cases h2
theorem ret_ok {r : R} {m : M} {v : V} (A : ArgOk K F H O vs ms) (hp : (ms.all fun m => !m.isOwn || m.pinned) = true) (S : StI K F' H' O' σ' ρ') (p : PinS (start N vs) (ms.map some ++ List.replicate n none) σ' ρ') (t : Stp F H O F' H' O') (rr : RepR K H F' H' O' σ' v r) (e : retM r ρ' = some m) : ResOk K H F' H' v m := by
  have own : ∀ {i : Nat} {m0 : M} {a : Addr}, ρ'.get i = some m0 → m0.isOwn = true → m0.pinned = false → σ'[i]? = some (some (.ref a)) → O' a → H a = none := fun {i m0 a} g o np hv oa => by
    rcases t.ow a oa with q | q
    · obtain ⟨j, m1, e1, o1, hv1⟩ := A.only a q
      obtain ⟨m2, h1, h2, h3, h4⟩ := lent_end A hp S p e1 o1 hv1
      have ne : i ≠ j := fun e => by
        subst e
        rw [g] at h1
        cases h1
        rw [np] at h2
        cases h2
      exact (S.sep i j a m0 m2 ne g h1 o (pinned_own h2) hv h3).elim
    · exact q
  cases r with
  | val d => cases e; exact rr
  | new xs =>
    cases e
    obtain ⟨a, ws, rfl, nf, no, h0, ha, hd⟩ := rr
    exact ⟨a, ws, rfl, nf, h0, ha, hd⟩
  | newd xs =>
    cases e
    obtain ⟨a, ws, rfl, nf, no, h0, ha, hd, hd2⟩ := rr
    exact ⟨a, ws, rfl, nf, h0, ha, hd, hd2⟩
  | ob C fs => cases e; exact rr
  | sc ns => cases e
  | own i =>
    cases q : ρ'.get i with
    | none => simp only [retM, q] at e; cases e
    | some m0 =>
      simp only [retM, q] at e
      obtain ⟨u, g1, g2⟩ := S.var i m0 q
      have eu : u = v := by
        have := g1.symm.trans rr
        simpa using this
      subst eu
      cases m0 with
      | sh d => cases e; exact g2
      | ol pp xs =>
        cases pp with
        | true => cases e
        | false =>
          cases e
          obtain ⟨a, ws, rfl, oa, ha, hd⟩ := g2
          exact ⟨a, ws, rfl, (S.odom a oa).2, own q rfl rfl g1 oa, ha, hd⟩
      | od pp xs =>
        cases pp with
        | true => cases e
        | false =>
          cases e
          obtain ⟨a, ws, rfl, oa, ha, hd, hd2⟩ := g2
          exact ⟨a, ws, rfl, (S.odom a oa).2, own q rfl rfl g1 oa, ha, hd, hd2⟩
      | ob C fs => cases e
      | sc ns => cases e
end
section
variable {X : Cx} {cx : Cxt}
theorem body_ok {sts : List Stmt} {fd : Fd} {Q : VK} {E : XK} {vs : List V} (hb : PDss X xr (fun cls d _ H => E cls d H) sts (evSs cx fd.body)) (hN : X.N.length = fd.nS) (h : SpMi X.K xr (runB cx fd) vs H Q E) :
    ∃ t, PSs X sts t ∧ t { nx := fun _ H' => Q .non H', rt := Q } (start X.N vs) H := by
  obtain ⟨t, pt, kt⟩ := hb.run
  refine ⟨t, pt, ?_⟩
  obtain ⟨F, O, ms, A, w⟩ := h
  unfold runB at w
  split at w
  · rename_i hc
    obtain ⟨h1, h2, hp⟩ := hc
    have S0 : StI X.K F H O (start X.N vs) (ms.map some ++ List.replicate (fd.nS - fd.nP) none) := start_ok A (by rw [hN]; omega)
    refine kt F H O _ _ _ S0 ?_
    cases e : evSs cx fd.body (ms.map some ++ List.replicate (fd.nS - fd.nP) none) with
    | no => rw [e] at w; exact w.elim
    | ex x ρ' =>
      rw [e] at w
      dsimp only at w
      cases ef : finOf ρ' ms 0 with
      | none => rw [ef] at w; exact w.elim
      | some fin =>
        rw [ef] at w
        exact fun F' H' O' σ' cls d S t p r => w F' H' cls d (call_stp A hp S p t) (fin_ok A hp S p ef) r
    | ok fl ρ' =>
      rw [e] at w
      dsimp only at w
      cases ef : finOf ρ' ms 0 with
      | none =>
        rw [ef] at w
        cases fl <;> exact w.elim
      | some fin =>
        rw [ef] at w
        cases fl with
        | next => exact fun F' H' O' σ' S t p => w F' H' .non (call_stp A hp S p t) (fin_ok A hp S p ef) .non
        | ret m => exact fun F' H' O' σ' v r S t p rr er => w F' H' v (call_stp A hp S p t) (fin_ok A hp S p ef) (ret_ok A hp S p t rr er)
        | brk => exact w.elim
        | cont => exact w.elim
  · exact w.elim
theorem sp_len {fd : Fd} {vs : List V} {Q : VK} {E : XK} (h : SpMi K xr (runB cx fd) vs H Q E) : vs.length = fd.nP := by
  obtain ⟨F, O, ms, A, w⟩ := h
  unfold runB at w
  split at w
  · rename_i hc
    rw [A.rep.length]
    exact hc.1
  · exact w.elim
end
end MI
namespace MI
open PySem PySem.Spec PyProof.Rows L2
variable {K : PySem.W.Frag} {F F' : Fz} {H H' : Hp} {O O' : Fz} {σ σ' : L2.St} {ρ ρ' : Env} {xr : XRep} {W : WX}
mutual
theorem plain_noDict : ∀ d : D, d.plain = true → d.hasDict = false
  | .none, _ => rfl
  | .bool _, _ => rfl
  | .int _, _ => rfl
  | .str _, _ => rfl
  | .list xs, h => by simpa [PyData.hasDict] using plain_noDictAll xs (by simpa [PyData.plain] using h)
  | .tuple xs, h => by simpa [PyData.hasDict] using plain_noDictAll xs (by simpa [PyData.plain] using h)
  | .dict kvs, h => by simp [PyData.plain] at h
theorem plain_noDictAll : ∀ xs : List D, PyData.plainAll xs = true → PyData.hasDictAll xs = false
  | [], _ => rfl
  | x :: xs, h => by
    have h' : x.plain = true ∧ PyData.plainAll xs = true := by simpa [PyData.plainAll] using h
    simp [PyData.hasDictAll, plain_noDict x h'.1, plain_noDictAll xs h'.2]
end
/-- what stands where sys.modules stands -/
def SysOk (K : PySem.W.Frag) : Prop := ∃ o : Obj, K.lookup sysModules = some o ∧ o.cls = .type "dict"
section
variable {X : Cx} {cx : Cxt} {pins : List (Addr × Obj)} {s : Shared}
theorem SysOk.ne (k : SysOk X.K) (I : Inv X pins σ H s) {a : Addr} {o : Obj} (h : s.heap.get? a = some o) (hc : o.cls = .type "list") : sysModules ≠ a := fun e => by
  obtain ⟨o2, h1, h2⟩ := k
  have h3 := I.kIn _ _ h1
  rw [e, h] at h3
  cases h3
  rw [hc] at h2
  injection h2 with h2
  exact absurd h2 (by decide)
mutual
theorem Dat.reads2 (sk : SysOk X.K) (I : Inv X pins σ H s) : ∀ (d : D) (v : V) (u : Value), Dat X.K F H v d → noList d = true → RelV v u → ∃ as, Reads s.heap u d as ∧ sysModules ∉ as
  | .none, _, _, h, _, r => by cases h; cases r; exact ⟨_, .none, by simp⟩
  | .bool b, _, _, h, _, r => by cases h; cases r; exact ⟨_, .bool b, by simp⟩
  | .int i, _, _, h, _, r => by cases h; obtain ⟨t, rfl⟩ := r; exact ⟨_, .int i t, by simp⟩
  | .str x, _, _, h, _, r => by cases h; obtain ⟨t, rfl⟩ := r; exact ⟨_, .str x t, by simp⟩
  | .list ds, _, _, h, p, r => by
    cases h with
    | lst f hs ha =>
      cases r
      obtain ⟨_, its, n, rv, ho⟩ := (show ObjOk X.prog X.w H s.heap _ (.lst _) from I.hok _ _ hs)
      obtain ⟨as, hr, hn⟩ := Dats.reads2 sk I ds _ its ha (by simpa [noList] using p) rv
      refine ⟨_, .list ho rfl rfl (by simpa using hr), ?_⟩
      simp only [List.mem_cons, not_or]
      exact ⟨sk.ne I ho rfl, hn⟩
  | .tuple ds, _, _, h, p, r => by
    have q : ∃ a vs, _ ∧ SqT X.K H a vs ∧ Dats X.K F H vs ds := Dat1.tup (.sh h)
    obtain ⟨a, vs, rfl, hs, ha⟩ := q
    cases r
    obtain ⟨its, rv, ⟨o, ho, hc, n, hd⟩, _⟩ := I.tuple hs
    obtain ⟨as, hr, hn⟩ := Dats.reads2 sk I ds _ its ha (by simpa [noList] using p) rv
    exact ⟨_, .tuple ho hc hd hr, hn⟩
  | .dict kvs, _, _, h, p, r => by
    have e : kvs = [] := by simpa [noList] using p
    subst e
    cases h with
    | dK f hs t u =>
      rename_i a ks
      cases r
      have ek : ks = [] := by
        cases ks with
        | nil => rfl
        | cons k ks => cases u
      subst ek
      obtain ⟨_, ne, vs, kv, o, es, ep, ho, ex, hd, _, hp, _⟩ := (show ObjOk X.prog X.w H s.heap a (.dK []) from I.hok a _ hs)
      cases kv
      have ee : es.toList = [] := by
        generalize es.toList = l at hp
        cases hp
        rfl
      refine ⟨a :: [] ++ [], .dict ho ex.1 hd (by rw [ee]; exact .nil) (by rw [ee]; exact .nil), ?_⟩
      simp only [List.append_nil, List.mem_singleton]
      intro e
      rw [e] at ne
      simp at ne
theorem Dats.reads2 (sk : SysOk X.K) (I : Inv X pins σ H s) : ∀ (ds : List D) (vs : List V) (us : List Value), Dats X.K F H vs ds → noLists ds = true → Vals vs us → ∃ as, ReadsAll s.heap us ds as ∧ sysModules ∉ as
  | [], _, _, h, _, r => by cases h; cases r; exact ⟨_, .nil, by simp⟩
  | d :: ds, _, _, h, p, r => by
    cases h with
    | cons h1 h2 =>
      cases r with
      | cons r1 r2 =>
        have p' : noList d = true ∧ noLists ds = true := by simpa [noLists] using p
        obtain ⟨as, q1, n1⟩ := Dat.reads2 sk I d _ _ h1 p'.1 r1
        obtain ⟨bs, q2, n2⟩ := Dats.reads2 sk I ds _ _ h2 p'.2 r2
        exact ⟨_, .cons q1 q2, by simp only [List.mem_append, not_or]; exact ⟨n1, n2⟩⟩
end
theorem dict_reads (I : Inv X pins σ H s) {a : Addr} (hs : H a = some (.dK [])) : ∃ as, Reads s.heap (.ref a) (.dict []) as ∧ sysModules ∉ as := by
  obtain ⟨_, ne, vs, kv, o, es, ep, ho, ex, hd, _, hp, _⟩ := (show ObjOk X.prog X.w H s.heap a (.dK []) from I.hok a _ hs)
  cases kv
  have ee : es.toList = [] := by
    generalize es.toList = l at hp
    cases hp
    rfl
  refine ⟨a :: [] ++ [], .dict ho ex.1 hd (by rw [ee]; exact .nil) (by rw [ee]; exact .nil), ?_⟩
  simp only [List.append_nil, List.mem_singleton]
  intro e
  rw [e] at ne
  simp at ne
theorem repr_ok {k : Nat} (sk : SysOk X.K) (hr : Room k X.A) (ga : X.A.guards = some []) : CallR X (.builtin "repr") (rB1 X.K reprD) := by
  intro pins s σ H xs us Q I r h
  obtain ⟨F, v, d, res, rfl, hd, hg, q⟩ := h
  obtain ⟨u, rfl, ru⟩ := r.one
  obtain ⟨g, e⟩ := gd_some hg
  subst e
  unfold okRepr at g
  simp only [Bool.and_eq_true, decide_eq_true_eq, Bool.or_eq_true] at g
  obtain ⟨⟨⟨g2, g3⟩, g4⟩, g5⟩ := g
  have hu := hr.un
  have box : ∀ {a : Addr}, v = .ref a → boxed d = true → ∃ as, Reads s.heap (.ref a) d as ∧ (d.hasDict = true → sysModules ∉ as) := fun {a} ev bx => by
    subst ev
    rcases g5 with p | p
    · obtain ⟨as, h⟩ := Dat1.reads I hd p rfl
      exact ⟨as, h, PyData.noDict_hsm (plain_noDict d p)⟩
    · cases hd with
      | sh hd =>
        obtain ⟨as, h1, h2⟩ := Dat.reads2 sk I d _ _ hd p rfl
        exact ⟨as, h1, fun _ => h2⟩
      | ol hs ha =>
        rename_i ws xs
        obtain ⟨_, its, n, rv, ho⟩ := (show ObjOk X.prog X.w H s.heap _ (.lst _) from I.hok _ _ hs)
        obtain ⟨as, h1, hn⟩ := Dats.reads2 sk I xs _ its ha (by simpa [noList] using p) rv
        refine ⟨_, .list ho rfl rfl (by simpa using h1), fun _ => ?_⟩
        simp only [List.mem_cons, not_or]
        exact ⟨sk.ne I ho rfl, hn⟩
      | od _ _ _ => cases bx
  have alt : (∃ a, v = .ref a ∧ ∃ as, Reads s.heap (.ref a) d as ∧ (d.hasDict = true → sysModules ∉ as)) ∨ (Dat X.K F H v d ∧ boxed d = false ∧ ∀ kvs, d ≠ .dict kvs) := by
    cases d with
    | list xs =>
      obtain ⟨a, vs, e, _⟩ := hd.lst
      exact .inl ⟨a, e, box e rfl⟩
    | tuple xs =>
      obtain ⟨a, vs, e, _⟩ := hd.tup
      exact .inl ⟨a, e, box e rfl⟩
    | dict kvs =>
      have ek : kvs = [] := by
        rcases g5 with p | p
        · simp [PyData.plain] at p
        · simpa [noList] using p
      subst ek
      have q : ∃ a, v = .ref a ∧ H a = some (.dK []) := by
        cases hd with
        | sh hd =>
          cases hd with
          | dK f hs t u =>
            rename_i a ks
            have ek : ks = [] := by
              cases ks with
              | nil => rfl
              | cons k ks => cases u
            subst ek
            exact ⟨a, rfl, hs⟩
        | od hs t u =>
          rename_i a ks
          have ek : ks = [] := by
            cases ks with
            | nil => rfl
            | cons k ks => cases u
          subst ek
          exact ⟨a, rfl, hs⟩
      obtain ⟨a, e, hs⟩ := q
      obtain ⟨as, h1, h2⟩ := dict_reads I hs
      exact .inl ⟨a, e, as, h1, fun _ => h2⟩
    | _ =>
      cases hd with
      | sh hd => exact .inr ⟨hd, rfl, fun _ h => by cases h⟩
  rcases alt with ⟨a, rfl, as, rd, hs⟩ | ⟨hd, bx, nd⟩
  · cases ru
    exact PySem.repr_of_reads' rd g2 hs ga (by omega) (fun b o e => e) (fun h' u tk hk => ⟨.str d.shown, H, I.kept hk, ⟨u, rfl⟩, q _ _ (.same (.str _))⟩) (by rw [← lim_eq]; exact g3)
  · cases d with
    | none =>
      cases hd
      cases ru
      exact PySem.P.repr_of_none ⟨.str _, H, I.tok _, ⟨_, rfl⟩, q _ _ (.same (.str _))⟩
    | bool b =>
      cases hd
      cases ru
      exact PySem.P.repr_of_bool ⟨.str _, H, I.tok _, ⟨_, rfl⟩, q _ _ (.same (.str _))⟩
    | int i =>
      cases hd
      obtain ⟨t, rfl⟩ := ru
      exact PySem.P.repr_of_int (by simpa [PyData.showable] using g2) ⟨.str _, H, I.tok _, ⟨_, rfl⟩, q _ _ (.same (.str _))⟩
    | str x =>
      cases hd
      obtain ⟨t, rfl⟩ := ru
      exact PySem.P.repr_of_str ⟨.str _, H, I.tok _, ⟨_, rfl⟩, q _ _ (.same (.str _))⟩ (by rw [← lim_eq]; exact g3)
    | list xs => cases bx
    | tuple xs => cases bx
    | dict kvs => exact absurd rfl (nd kvs)
theorem repr_boot : bootBuiltins "repr" = some (.builtin "repr") := by decide +kernel
theorem pd_repr {k : Nat} (sk : SysOk X.K) (hr : Room k X.A) (ga : X.A.guards = some []) {a : Expr} {x : Ex} {p pos : Pos} (hg : Gl X "repr") (hm : X.mg "repr" = none) (hs : noStar a = true) (ha : PD X xr W a (evE cx x)) : PD X xr W (.Call (.Name "repr" p) [a] [] pos) (evE cx (.bi1 .repr x)) :=
  pd_b1 (fun ta pa => pe_callB (repr_ok sk hr ga) hg hm repr_boot pa (by decide +kernel) (by decide +kernel) (star_one hs _ _) rfl) hs ha
theorem pd_dct {pos : Pos} : PD X xr W (.Dict [] [] pos) (evE cx (.dct [])) := ⟨_, pe_dnewK, fun F H O σ ρ Q S w => by
  simp only [evE] at w
  exact fun p hp => (NewR.dK hp .nil .nil).done S .refl (.refl _) w⟩
/-- the pairs of a display -/
structure PDks (X : Cx) (xr : XRep) (W : WX) (pos : Pos) (keys : List (Option Expr)) (vals : List Expr) (ev : MI.Env → Out (List (D × D))) : Prop where
  run : ∃ trs, PPs X pos keys vals trs ∧ ∀ F H O σ ρ Q, StI X.K F H O σ ρ → WantG X.K xr W (fun F' H' _ (ps : List (V × V)) (ds : List (D × D)) => Dats X.K F' H' (ps.map (·.1)) (ds.map (·.1)) ∧ Dats X.K F' H' (ps.map (·.2)) (ds.map (·.2))) σ F H O ρ (ev ρ) Q → tPairs trs σ H Q
theorem pdks_nil {pos : Pos} : PDks X xr W pos [] [] (evKs cx []) := ⟨[], pps_nil, fun F H O σ ρ Q S w => by
  simp only [evKs] at w
  exact w F H O [] S .refl (.refl _) ⟨.nil, .nil⟩⟩
theorem pdks_cons {pos : Pos} {k v : Expr} {ks : List (Option Expr)} {vs : List Expr} {x y : Ex} {xs : List (Ex × Ex)} (hk : PD X xr W k (evE cx x)) (hv : PD X xr W v (evE cx y)) (h : PDks X xr W pos ks vs (evKs cx xs)) : PDks X xr W pos (some k :: ks) (v :: vs) (evKs cx ((x, y) :: xs)) := by
  obtain ⟨tk, pk, kk⟩ := hk.frz.run
  obtain ⟨tv, pv, kv⟩ := hv.frz.run
  obtain ⟨tr, pr, kr⟩ := h.run
  refine ⟨_, pps_cons pk pv pr, fun F H O σ ρ Q S w => ?_⟩
  simp only [evKs] at w
  refine kk F H O σ ρ _ S (WantG.seq .refl (.refl _) w fun d1 ρ1 F1 H1 O1 u1 S1 _ t1 p1 r1 w => ?_)
  refine kv F1 H1 O1 σ ρ1 _ S1 (WantG.seq t1 p1 w fun d2 ρ2 F2 H2 O2 u2 S2 t12 t2 p2 r2 w => ?_)
  refine kr F2 H2 O2 σ ρ2 _ S2 (WantG.seq t2 p2 w fun ds ρ3 F3 H3 O3 us S3 t23 t3 p3 r3 w => ?_)
  exact w F3 H3 O3 _ S3 t3 p3 ⟨.cons (Dat.ext (S2.ext t23) (Dat.ext (S1.ext t12) r1)) r3.1, .cons (Dat.ext (S2.ext t23) r2) r3.2⟩
theorem pd_dctN {pos : Pos} {keys : List (Option Expr)} {vals : List Expr} {xs : List (Ex × Ex)} (hall : keys.all (·.isSome) = true) (hl : keys.length = vals.length) (h0 : keys ≠ []) (h15 : keys.length ≤ 15) (h1 : xs ≠ [])
    (h : PDks X xr W pos keys vals (evKs cx xs)) : PD X xr W (.Dict keys vals pos) (evE cx (.dct xs)) := by
  obtain ⟨tr, pr, kr⟩ := h.run
  refine ⟨_, pe_disp pr hall hl h0 h15, fun F H O σ ρ Q S w p hp => ?_⟩
  have ev : evE cx (.dct xs) ρ = (evKs cx xs ρ).bind fun ds ρ => if ds.all (fun p => isKey p.1) && decide (ds.length ≤ 15) then .ok (.newd (dputs [] ds)) ρ else .no := by
    cases xs with
    | nil => exact absurd rfl h1
    | cons a b => simp only [evE]
  rw [ev] at w
  have no := S.noo hp
  have nf := S.nof hp
  refine kr F _ O σ ρ _ (S.laid hp) (WantG.seq (stp_laid hp) (.refl _) w fun ds ρ1 F1 H1 O1 ps S1 t t1 p1 r1 w => ?_)
  have e1 : H1 p = some (.dK []) := (t.hp p (by rw [upd_same]; simp) no).trans upd_same
  refine ⟨e1, ?_⟩
  have nf1 : ¬ F1 p := fun q => by
    rcases t.fz' p q with q | q | q
    · exact nf q
    · rw [upd_same] at q; cases q
    · exact no q
  have no1 : ¬ O1 p := fun q => by
    rcases t.ow p q with q | q
    · exact no q
    · rw [upd_same] at q; cases q
  split at w
  · rename_i hk
    simp only [Bool.and_eq_true, decide_eq_true_eq] at hk
    obtain ⟨kvs, rfl, dk⟩ := keys_ok r1.1 r1.2 hk.1
    refine ⟨kvs, rfl, by rw [dk.length]; exact hk.2, ?_⟩
    have S2 : StI X.K F1 (upd H1 p (.dK (mergeK [] kvs))) O1 σ ρ1 := S1.side nf1 no1
    have x : Ext F1 H1 F1 (upd H1 p (.dK (mergeK [] kvs))) := fun b f => ⟨f, upd_ne fun e => nf1 (e ▸ f)⟩
    have dm := dputs_ok dk (DatsK.nil (K := X.K) (F := F1) (H := H1))
    exact w F1 _ O1 _ S2 (stp_side t1 hp) p1 ⟨p, _, rfl, nf1, no1, hp, upd_same, Dats.ext x dm.1, Dats.ext x dm.2⟩
  · exact w.elim
theorem pd_glo {n : String} {y : Str} {v : V} {u : Value} {d : D} {p : Pos} (hg : Gl X y) (hm : X.mg y = some u) (r : RelV v u) (hd : (y == ("__debug__" : Str)) = false) (h : ∀ F H, Dat X.K F H v d) : PD X xr W (.Name y p) (evE cx (.glo n d)) := pd_c (pe_glob hg hm r hd) h fun ρ => by simp only [evE]
end
end MI
namespace MI
open PySem PySem.Spec PyProof.Rows L2
variable {K : PySem.W.Frag} {F F' : Fz} {H H' : Hp} {O O' : Fz} {σ σ' : L2.St} {ρ ρ' : Env} {xr : XRep} {W : WX}
section
variable {X : Cx} {cx : Cxt}
/-! ### 'sep'.join(e) -/
theorem strs_ok : ∀ {xs : List D} {vs : List V} {ys : List Str}, Dats K F H vs xs → strsOf xs = some ys → vs = ys.map V.str
  | [], _, _, h, e => by cases h; cases e; rfl
  | d :: ds, _, _, h, e => by
    cases h with
    | cons a b =>
      cases d with
      | str x =>
        simp only [strsOf, Option.map_eq_some_iff] at e
        obtain ⟨zs, e1, rfl⟩ := e
        cases a
        rw [strs_ok b e1]
        rfl
      | _ => cases e
theorem pd_join {s : String} {a : Expr} {x : Ex} {j : Nat} {p apos cpos : Pos} (hl : (apos.endLine == cpos.line) = true) (hs : noStar a = true) (ha : PD X xr W a (evE cx x)) :
    PD X xr W (.Call (.Attribute (.Constant (.str (Str.ofString s)) j p) "join" apos) [a] [] cpos) (evE cx (.join s x)) := by
  obtain ⟨ta, pa, ka⟩ := ha.run
  refine ⟨_, pe_join pe_str pa (star_one hs _ _) rfl hl, fun F H O σ ρ Q S w => ?_⟩
  refine ⟨⟨_, rfl⟩, ?_⟩
  simp only [evE] at w
  refine ka F H O σ ρ _ S (WantG.seq .refl (.refl _) w fun ra ρ1 F1 H1 O1 va S1 _ t1 p1 r1 w => ?_)
  obtain ⟨res, he, w⟩ := w.lift
  simp only [joinD, Option.bind_eq_some_iff] at he
  obtain ⟨d, hd, xs, h1, ys, h2, hg⟩ := he
  obtain ⟨h3, rfl⟩ := gd_some hg
  obtain ⟨q, vs, rfl, hq, dt⟩ := (cont_ok S1 r1 hd).seq h1
  have ev := strs_ok dt h2
  subst ev
  exact ⟨_, q, ys, rfl, rfl, hq, by simpa using h3, by rw [TL.join_eq]; exact (NewR.same (.str _)).done S1 t1 p1 w⟩
/-! ### list(range(..)) -/
theorem rg_rng (a b : Int) : Dats K F H (rgV a b) (rngD a (b - a).toNat 1) := by
  unfold rgV rngD
  generalize List.range (b - a).toNat = l
  induction l with
  | nil => exact .nil
  | cons k l ih =>
    refine .cons ?_ ih
    show Dat K F H (V.int (a + (k : Nat))) (PyData.int (a + (k : Int) * 1))
    rw [Int.mul_one]
    exact .int _
theorem prg_of1 {a : Expr} {ta : TE} {p pos : Pos} (hg : Gl X "range") (hm : X.mg "range" = none) (hs : noStar a = true) (pa : PE X a ta) : PRg X (.Call (.Name "range" p) [a] [] pos) (tRg1 ta) := prg_1 hg hm pa (star_one hs _ _)
theorem len_rng (a : Int) (n : Nat) : (rngD a n 1).length = n := by simp [rngD]
theorem lit_end {a b : Int} {items : List D} {t : Bool} {R0 : R} {F0 O0 F1 O1 : Fz} {H0 H1 : Hp} {ρ0 ρ1 : Env} {Q : VK} (S1 : StI K F1 H1 O1 σ ρ1) (t1 : Stp F0 H0 O0 F1 H1 O1) (p1 : Pin ρ0 ρ1) (e : gd (small62 a && small62 b) (rngD a (b - a).toNat 1) = some items)
    (w : WantE K xr W σ F0 H0 O0 ρ0 (if items.length ≤ Lim then .ok (if t then .val (.tuple items) else .new items) ρ1 else .no) Q) :
    RgOk a b ∧ ∀ q, H1 q = none → Q (.ref q) (upd H1 q (if t then .tup (rgV a b) else .lst (rgV a b))) := by
  obtain ⟨h1, rfl⟩ := gd_some e
  rw [Bool.and_eq_true] at h1
  have s1 := small62_iff h1.1
  have s2 := small62_iff h1.2
  rw [len_rng] at w
  split at w
  · rename_i hl
    refine ⟨⟨s1.1, s1.2, s2.1, s2.2, hl⟩, fun q hq => ?_⟩
    cases t with
    | true => exact (NewR.tup hq (rg_rng a b)).done S1 t1 p1 w
    | false => exact (NewR.lst hq (rg_rng a b)).done S1 t1 p1 w
  · exact w.elim
theorem pd_lit1 {a : Expr} {x : Ex} {t : Bool} {n : Str} {p p2 pos pos2 : Pos} (hc : X.calm = true) (hn : n = if t then "tuple" else "list") (hg : Gl X n) (hm : X.mg n = none) (hg2 : Gl X "range") (hm2 : X.mg "range" = none) (hs : noStar a = true) (ha : PD X xr W a (evE cx x)) :
    PD X xr W (.Call (.Name n p) [.Call (.Name "range" p2) [a] [] pos2] [] pos) (evE cx (.lit (.rng [x]) t)) := by
  obtain ⟨ta, pa, ka⟩ := ha.frz.run
  have pr := prg_of1 (p := p2) (pos := pos2) hg2 hm2 hs pa
  have run : ∀ F H O σ ρ Q, StI X.K F H O σ ρ → WantE X.K xr W σ F H O ρ (evE cx (.lit (.rng [x]) t) ρ) Q → ta σ H fun y H1 => ∃ n, y = .int n ∧ (RgOk 0 n ∧ ∀ q, H1 q = none → Q (.ref q) (upd H1 q (if t then .tup (rgV 0 n) else .lst (rgV 0 n)))) := by
    intro F H O σ ρ Q S w
    simp only [evE, evI, evDs] at w
    rw [bindA, bindA] at w
    refine ka F H O σ ρ _ S (WantG.seq .refl (.refl _) w fun d ρ1 F1 H1 O1 v S1 _ t1 p1 r1 w => ?_)
    simp only [Out.bind] at w
    cases d with
    | int n =>
      cases r1
      have e0 : rngOf [.int n] = gd (small62 0 && small62 n) (rngD 0 (n - 0).toNat 1) := by
        show gd (small62 n) (rngD 0 n.toNat 1) = _
        rw [show small62 0 = true from rfl, Bool.true_and, Int.sub_zero]
      rw [e0] at w
      cases e : gd (small62 0 && small62 n) (rngD 0 (n - 0).toNat 1) with
      | none => rw [e] at w; exact w.elim
      | some items =>
        rw [e] at w
        exact ⟨n, rfl, lit_end (R0 := .new []) (t := t) S1 t1 p1 e w⟩
    | _ => exact w.elim
  cases t with
  | true =>
    subst hn
    exact ⟨_, pe_tupRg hc hg hm pr (star_one rfl _ _), fun F H O σ ρ Q S w => run F H O σ ρ Q S w⟩
  | false =>
    subst hn
    exact ⟨_, pe_listRg hc hg hm pr (star_one rfl _ _), fun F H O σ ρ Q S w => run F H O σ ρ Q S w⟩
/-! ### a in range(..) -/
theorem cr_range1 : CallR X (.type "range") (fun vs H Q => ∃ j, vs = [V.int j] ∧ ∀ p, H p = none → Q (.ref p) (upd H p (.rng 0 j))) := by
  intro pins s σ H vs us Q I r h
  obtain ⟨j, rfl, q⟩ := h
  cases r with
  | cons r1 r2 =>
    cases r2
    obtain ⟨t, rfl⟩ := r1
    refine call_range_1 ⟨.ref s.heap.objs.size, upd H s.heap.objs.size (.rng 0 j), I.laid (t' := s.toks + 2) (fun b o e => Heap.get?_push_of_some _ e) (Nat.le_refl _) ?_, rfl, q _ (I.hok.fresh (Nat.le_refl _))⟩
    exact ⟨_, _, _, Heap.get?_push_size _ rfl⟩
theorem op_notin_rng : OpR X (compareOp .NotIn) (fun x y H Q => ∃ i a lo hi, x = V.int i ∧ y = V.ref a ∧ H a = some (.rng lo hi) ∧ Q (.bl (!decide (lo ≤ i ∧ i < hi))) H) := by
  intro pins s σ H x y v u Q I rx ry h
  obtain ⟨i, a, lo, hi, rfl, rfl, ha, q⟩ := h
  obtain ⟨k, rfl⟩ := rx
  obtain rfl : u = Value.ref a := ry
  obtain ⟨t1, t2, t3, ho⟩ := I.hok a _ ha
  show wpAny _ _ (do return Value.bool (!(← contains (Value.ref a) (Value.int i k)))) _ _ s
  refine wpAny_bind (wpAny_contains_slot (T := "range") ⟨_, ho, rfl⟩ F.slot_range_contains (call_meets F.slot_range_contains ⟨_, ho, rfl⟩ F.entry_range_contains (F.args_range_contains_2 _ _) (q_contains a lo hi i t1 t2 t3 k)
    ⟨ho, wpAny_truthy_bool (wpAny_pure ⟨.bl _, H, I, rfl, ?_⟩)⟩))
  rw [place1]
  exact q
def inOp (neg : Bool) : CmpOp := if neg then .NotIn else .In
theorem op_inr (neg : Bool) : OpR X (compareOp (inOp neg)) (fun x y H Q => ∃ i a lo hi, x = V.int i ∧ y = V.ref a ∧ H a = some (.rng lo hi) ∧ Q (.bl (neg != decide (lo ≤ i ∧ i < hi))) H) := by
  cases neg with
  | true => exact opR_imp op_notin_rng fun x y H Q ⟨i, a, lo, hi, h1, h2, h3, q⟩ => ⟨i, a, lo, hi, h1, h2, h3, by simpa using q⟩
  | false => exact opR_imp op_in_rng fun x y H Q ⟨i, a, lo, hi, h1, h2, h3, q⟩ => ⟨i, a, lo, hi, h1, h2, h3, by simpa using q⟩
theorem range_boot : bootBuiltins ("range" : Str) = some (.type "range") := by decide +kernel
theorem pd_inr1 {neg : Bool} {a b : Expr} {x y : Ex} {p pos pos2 : Pos} (hm : behindInMarks (inOp neg) (.Call (.Name "range" p) [b] [] pos2) = false) (hg : Gl X "range") (hmg : X.mg "range" = none) (hs : noStar b = true) (ha : PD X xr W a (evE cx x)) (hb : PD X xr W b (evE cx y)) :
    PD X xr W (.Compare a [inOp neg] [.Call (.Name "range" p) [b] [] pos2] pos) (evE cx (.inr neg x [y])) := by
  obtain ⟨ta, pa, ka⟩ := ha.run
  obtain ⟨tb, pb, kb⟩ := hb.frz.run
  refine ⟨_, pe_cmpR (op_inr neg) pa (pe_callTy cr_range1 hg hmg range_boot (pa_cons pb pa_nil (star_one hs _ _)) (by decide) (by decide) (star_one hs _ _) rfl) hm, fun F H O σ ρ Q S w => ?_⟩
  simp only [evE, evDs] at w
  refine ka F H O σ ρ _ S (WantG.seq .refl (.refl _) w fun ra ρ1 F1 H1 O1 va S1 _ t1 p1 r1 w => ?_)
  rw [bindA] at w
  refine kb F1 H1 O1 σ ρ1 _ S1 (WantG.seq t1 p1 w fun d ρ2 F2 H2 O2 vb S2 t12 t2 p2 r2 w => ?_)
  simp only [Out.bind] at w
  obtain ⟨res, he, w⟩ := w.lift
  simp only [Option.bind_eq_some_iff] at he
  obtain ⟨dx, hx, hg⟩ := he
  have hx' := cont_ok S2 (r1.stp S1 t12) hx
  cases dx with
  | int i =>
    cases d with
    | int n =>
      cases hg
      cases r2
      cases hx'.int
      exact ⟨n, rfl, fun q hq => ⟨i, q, 0, n, rfl, rfl, upd_same, w _ _ _ _ (S2.laid hq) (t2.trans (stp_laid hq)) p2 (.bl _)⟩⟩
    | _ => cases hg
  | _ => cases hg
theorem pd_inr2 {neg : Bool} {a b c : Expr} {x y z : Ex} {p pos pos2 : Pos} (hm : behindInMarks (inOp neg) (.Call (.Name "range" p) [b, c] [] pos2) = false) (hg : Gl X "range") (hmg : X.mg "range" = none) (hs : noStar b = true) (hs2 : noStar c = true) (ha : PD X xr W a (evE cx x)) (hb : PD X xr W b (evE cx y)) (hc : PD X xr W c (evE cx z)) :
    PD X xr W (.Compare a [inOp neg] [.Call (.Name "range" p) [b, c] [] pos2] pos) (evE cx (.inr neg x [y, z])) := by
  obtain ⟨ta, pa, ka⟩ := ha.run
  obtain ⟨tb, pb, kb⟩ := hb.frz.run
  obtain ⟨tc, pc, kc⟩ := hc.frz.run
  refine ⟨_, pe_cmpR (op_inr neg) pa (pe_callTy cr_range2 hg hmg range_boot (pa_cons pb (pa_cons pc pa_nil (star_one hs2 _ _)) (star_one hs _ _)) (by decide) (by decide) (star_one hs _ _) (star_no (by simp [hs2]) _ _)) hm, fun F H O σ ρ Q S w => ?_⟩
  simp only [evE, evDs] at w
  refine ka F H O σ ρ _ S (WantG.seq .refl (.refl _) w fun ra ρ1 F1 H1 O1 va S1 _ t1 p1 r1 w => ?_)
  rw [bindA] at w
  refine kb F1 H1 O1 σ ρ1 _ S1 (WantG.seq t1 p1 w fun d ρ2 F2 H2 O2 vb S2 t12 t2 p2 r2 w => ?_)
  rw [bindA, bindA] at w
  refine kc F2 H2 O2 σ ρ2 _ S2 (WantG.seq t2 p2 w fun d3 ρ3 F3 H3 O3 vc S3 t23 t3 p3 r3 w => ?_)
  simp only [Out.bind] at w
  obtain ⟨res, he, w⟩ := w.lift
  simp only [Option.bind_eq_some_iff] at he
  obtain ⟨dx, hx, hg⟩ := he
  have hx' := cont_ok S3 (r1.stp S1 (t12.trans t23)) hx
  have r2' := Dat.ext (S2.ext t23) r2
  cases dx with
  | int i =>
    cases d with
    | int n =>
      cases d3 with
      | int m =>
        cases hg
        cases r2'
        cases r3
        cases hx'.int
        exact ⟨n, m, rfl, fun q hq => ⟨i, q, n, m, rfl, rfl, upd_same, w _ _ _ _ (S3.laid hq) (t3.trans (stp_laid hq)) p3 (.bl _)⟩⟩
      | _ => cases hg
    | _ => cases hg
  | _ => cases hg
/-! .. as a condition -/
theorem inr_end {neg : Bool} {i lo hi : Int} {F0 O0 F2 O2 : Fz} {H0 H2 : Hp} {ρ0 ρ2 : Env} {Q : Bool → Hp → Prop} (S : StI K F2 H2 O2 σ ρ2) (t : Stp F0 H0 O0 F2 H2 O2) (p : Pin ρ0 ρ2) (w : WantB K xr W σ F0 H0 O0 ρ0 (.ok (neg != decide (lo ≤ i ∧ i < hi)) ρ2) Q) :
    ∀ q, H2 q = none → ∃ i' a lo' hi', V.int i = V.int i' ∧ V.ref q = V.ref a ∧ (upd H2 q (.rng lo hi)) a = some (.rng lo' hi') ∧ ∃ c, V.bl (neg != decide (lo' ≤ i' ∧ i' < hi')) = .bl c ∧ Q c (upd H2 q (.rng lo hi)) :=
  fun q hq => ⟨i, q, lo, hi, rfl, rfl, upd_same, _, rfl, w _ _ _ _ (S.laid hq) (t.trans (stp_laid hq)) p rfl⟩
theorem pdt_inr1 {neg : Bool} {a b : Expr} {x y : Ex} {p pos pos2 : Pos} (hm : behindInMarks (inOp neg) (.Call (.Name "range" p) [b] [] pos2) = false) (hg : Gl X "range") (hmg : X.mg "range" = none) (hs : noStar b = true) (ha : PD X xr W a (evE cx x)) (hb : PD X xr W b (evE cx y)) :
    PDt X xr W (.Compare a [inOp neg] [.Call (.Name "range" p) [b] [] pos2] pos) (fun ρ => (evE cx (.inr neg x [y]) ρ).bind truthR) := by
  obtain ⟨ta, pa, ka⟩ := ha.run
  obtain ⟨tb, pb, kb⟩ := hb.frz.run
  refine ⟨_, pt_cmpR (op_inr neg) pa (pe_callTy cr_range1 hg hmg range_boot (pa_cons pb pa_nil (star_one hs _ _)) (by decide) (by decide) (star_one hs _ _) rfl) hm, fun F H O σ ρ Q S w => ?_⟩
  simp only [evE, evDs] at w
  rw [bindA] at w
  refine ka F H O σ ρ _ S (WantG.seq .refl (.refl _) w fun ra ρ1 F1 H1 O1 va S1 _ t1 p1 r1 w => ?_)
  rw [bindA, bindA] at w
  refine kb F1 H1 O1 σ ρ1 _ S1 (WantG.seq t1 p1 w fun d ρ2 F2 H2 O2 vb S2 t12 t2 p2 r2 w => ?_)
  simp only [Out.bind] at w
  cases hx : ra.cont ρ2 with
  | none => rw [hx] at w; exact w.elim
  | some dx =>
    rw [hx] at w
    have hx' := cont_ok S2 (r1.stp S1 t12) hx
    cases dx with
    | int i =>
      cases d with
      | int n =>
        cases r2
        cases hx'.int
        exact ⟨n, rfl, inr_end S2 t2 p2 w⟩
      | _ => exact w.elim
    | _ => exact w.elim
theorem pdt_inr2 {neg : Bool} {a b c : Expr} {x y z : Ex} {p pos pos2 : Pos} (hm : behindInMarks (inOp neg) (.Call (.Name "range" p) [b, c] [] pos2) = false) (hg : Gl X "range") (hmg : X.mg "range" = none) (hs : noStar b = true) (hs2 : noStar c = true) (ha : PD X xr W a (evE cx x)) (hb : PD X xr W b (evE cx y)) (hc : PD X xr W c (evE cx z)) :
    PDt X xr W (.Compare a [inOp neg] [.Call (.Name "range" p) [b, c] [] pos2] pos) (fun ρ => (evE cx (.inr neg x [y, z]) ρ).bind truthR) := by
  obtain ⟨ta, pa, ka⟩ := ha.run
  obtain ⟨tb, pb, kb⟩ := hb.frz.run
  obtain ⟨tc, pc, kc⟩ := hc.frz.run
  refine ⟨_, pt_cmpR (op_inr neg) pa (pe_callTy cr_range2 hg hmg range_boot (pa_cons pb (pa_cons pc pa_nil (star_one hs2 _ _)) (star_one hs _ _)) (by decide) (by decide) (star_one hs _ _) (star_no (by simp [hs2]) _ _)) hm, fun F H O σ ρ Q S w => ?_⟩
  simp only [evE, evDs] at w
  rw [bindA] at w
  refine ka F H O σ ρ _ S (WantG.seq .refl (.refl _) w fun ra ρ1 F1 H1 O1 va S1 _ t1 p1 r1 w => ?_)
  rw [bindA, bindA] at w
  refine kb F1 H1 O1 σ ρ1 _ S1 (WantG.seq t1 p1 w fun d ρ2 F2 H2 O2 vb S2 t12 t2 p2 r2 w => ?_)
  rw [bindA, bindA] at w
  refine kc F2 H2 O2 σ ρ2 _ S2 (WantG.seq t2 p2 w fun d3 ρ3 F3 H3 O3 vc S3 t23 t3 p3 r3 w => ?_)
  simp only [Out.bind] at w
  cases hx : ra.cont ρ3 with
  | none => rw [hx] at w; exact w.elim
  | some dx =>
    rw [hx] at w
    have hx' := cont_ok S3 (r1.stp S1 (t12.trans t23)) hx
    have r2' := Dat.ext (S2.ext t23) r2
    cases dx with
    | int i =>
      cases d with
      | int n =>
        cases d3 with
        | int m =>
          cases r2'
          cases r3
          cases hx'.int
          exact ⟨n, m, rfl, inr_end S3 t3 p3 w⟩
        | _ => exact w.elim
      | _ => exact w.elim
    | _ => exact w.elim
/-! ### sorted(set(e)), e a list of pairs -/
/-- the pairs of a list, with their places -/
theorem pairs_ok : ∀ {xs : List D} {vs : List V} {ps : List (Int × Int)}, Dats K F H vs xs → pairsOf xs = some ps →
    ∃ ks : List (Addr × List Int), vs = ks.map (fun p => V.ref p.1) ∧ ks.map (·.2) = ps.map (fun p => [p.1, p.2]) ∧ ∀ q ∈ ks, ∃ x y, q.2 = [x, y] ∧ (x, y) ∈ ps ∧ Dat K F H (.ref q.1) (.tuple [.int x, .int y])
  | [], _, _, h, e => by cases h; cases e; exact ⟨[], rfl, rfl, fun q hq => by cases hq⟩
  | d :: ds, _, _, h, e => by
    cases h with
    | @cons v vs _ _ a b =>
      unfold pairsOf at e
      split at e
      · rename_i hd; cases hd
      · rename_i x y r hd
        cases hd
        simp only [Option.map_eq_some_iff] at e
        obtain ⟨ps, e1, rfl⟩ := e
        obtain ⟨ks, rfl, e2, e3⟩ := pairs_ok b e1
        obtain ⟨l, ws, rfl, _, _⟩ := Dat1.tup (.sh a)
        refine ⟨(l, [x, y]) :: ks, rfl, by simp [e2], fun q hq => ?_⟩
        rcases List.mem_cons.mp hq with rfl | hq
        · exact ⟨x, y, rfl, List.mem_cons_self, a⟩
        · obtain ⟨x', y', h1, h2, h3⟩ := e3 q hq
          exact ⟨x', y', h1, List.mem_cons_of_mem _ h2, h3⟩
      · cases e
theorem ints_V {vs : List V} {x y : Int} (h : Dats K F H vs [.int x, .int y]) : vs = [x, y].map V.int := by
  cases h with
  | cons a b =>
    cases b with
    | cons c d =>
      cases d
      cases a
      cases c
      rfl
theorem pair_sq {q : Addr × List Int} {x y : Int} (e : q.2 = [x, y]) (h : Dat K F H (.ref q.1) (.tuple [.int x, .int y])) : SqT K H q.1 (q.2.map V.int) := by
  obtain ⟨a, vs, ea, hs, hd⟩ := Dat1.tup (.sh h)
  cases ea
  rw [e, ← ints_V hd]
  exact hs
/-- set(xs), xs a tuple of ints -/
def rSetTI (K : PySem.W.Frag) (w : World) : List V → Hp → VK → Prop := fun xs H Q => ∃ (p : Addr) (ns : List Int), xs = [V.ref p] ∧ SqT K H p (ns.map V.int) ∧ ns.length < 64 ∧
  ∀ (a : Addr) (S : Int → Bool) (c : Nat), (∀ j, S j = true ↔ j ∈ ns) → c ≤ ns.length → H a = none → Q (.ref a) (upd H a (SetO w a S c))
theorem cr_setTI {X : Cx} (hc : X.calm = true) : CallR X (.type "set") (rSetTI X.K X.w) := by
  intro pins s σ H xs us Q I r h
  obtain ⟨p, ns, rfl, hq, hl, q⟩ := h
  rw [Vals.ref1 r]
  obtain ⟨its, rv, pt, hz⟩ := I.tuple hq
  refine call_set_tupI ns (I.ok.hd hc) (show s.heap.IsTuple p its.toArray from pt) (by simpa using ints_of_vals rv) (by unfold scanBound; omega) fun h' tk c R hcn k => ?_
  exact ⟨.ref s.heap.objs.size, upd H s.heap.objs.size (SetO X.w s.heap.objs.size (fun j => decide (j ∈ ns)) c), I.laid (t' := tk) k (Nat.le_refl _) (setO_new R), rfl, q _ _ _ (fun j => by simp) hcn (I.hok.fresh (Nat.le_refl _))⟩
theorem cr_or {X : Cx} {f : Value} {r1 r2 : List V → Hp → VK → Prop} (h1 : CallR X f r1) (h2 : CallR X f r2) : CallR X f (fun xs H Q => r1 xs H Q ∨ r2 xs H Q) := by
  intro pins s σ H xs us Q I r h
  rcases h with h | h
  · exact h1 pins s σ H xs us Q I r h
  · exact h2 pins s σ H xs us Q I r h
theorem intsOf_V : ∀ {xs : List D} {vs : List V} {ns : List Int}, Dats K F H vs xs → intsOf xs = some ns → vs = ns.map V.int
  | [], _, _, h, e => by cases h; cases e; rfl
  | d :: ds, _, _, h, e => by
    cases h with
    | @cons v vs _ _ a b =>
      cases d with
      | int i =>
        simp only [intsOf, Option.map_eq_some_iff] at e
        obtain ⟨ns, e1, rfl⟩ := e
        rw [intsOf_V b e1]
        cases a
        rfl
      | _ => cases e
theorem dats_ints (ns : List Int) : Dats K F H (ns.map V.int) (ns.map PyData.int) := by
  induction ns with
  | nil => exact .nil
  | cons n ns ih => exact .cons (.int n) ih
/-! ### a, b = e, f -/
def isNew : R → Bool
  | .new _ => true
  | .newd _ => true
  | _ => false
theorem still_ok {H0 : Hp} {v : V} {r r2 : R} (S : StI K F H O σ ρ) (h : RepR K H0 F H O σ v r) (e : R.still r ρ = .ok r2 ρ') :
    ∃ F' O', StI K F' H O' σ ρ' ∧ RepR K H0 F' H O' σ v r2 ∧ Pin ρ ρ' ∧ (∀ a, F a → F' a) ∧ (∀ a, F' a → F a ∨ H0 a = none ∨ O a) ∧ (∀ a, O' a → O a) := by
  cases r with
  | own i =>
    obtain ⟨d, ρ1, e1, e2⟩ := out_bind (show ((MI.frz (.own i) ρ).bind fun d ρ => (.ok (.val d) ρ : Out R)) = .ok r2 ρ' from e)
    cases e2
    obtain ⟨F1, O1, z⟩ := frz_ok S h e1
    exact ⟨F1, O1, z.st, z.dat, z.pin, z.fz, z.fz', z.ow⟩
  | _ =>
    cases e
    exact ⟨F, O, S, h, .refl _, fun _ h => h, fun _ h => .inl h, fun _ h => h⟩
theorem still_ex {r : R} {z : Xn} (e : R.still r ρ = .ex z ρ') : False := by
  cases r with
  | own i =>
    have e : ((MI.frz (.own i) ρ).bind fun d ρ => (.ok (.val d) ρ : Out R)) = .ex z ρ' := e
    cases q : MI.frz (.own i) ρ with
    | ok d ρ1 => rw [q] at e; cases e
    | ex y ρ1 => exact frz_ex q
    | no => rw [q] at e; cases e
  | _ => cases e
theorem setR_ok {H0 : Hp} {i : Nat} {v : V} {r : R} (S : StI K F H O σ ρ) (h : RepR K H0 F H O σ v r) (e : setR i r ρ = .ok () ρ') :
    ∃ O', StI K F H O' (σ.set i (some v)) ρ' ∧ PinS σ ρ (σ.set i (some v)) ρ' ∧ (∀ a, O' a → O a ∨ (v = .ref a ∧ H0 a = none ∧ H a ≠ none ∧ isNew r = true)) := by
  unfold setR at e
  split at e
  · rename_i hf
    cases r with
    | val d =>
      cases e
      exact ⟨O, S.store hf (show RepM K F H O v (.sh d) from h) fun z => (by cases z), pins_set hf, fun _ h => .inl h⟩
    | new xs =>
      cases e
      obtain ⟨a, vs, rfl, nf, no, h0, ha, hd⟩ := h
      have x : ∀ b, (O b ∨ b = a) → H b ≠ none ∧ ¬ F b := fun b hb => by
        rcases hb with hb | rfl
        · exact S.odom b hb
        · exact ⟨by rw [ha]; simp, nf⟩
      have S1 : StI K F H (fun b => O b ∨ b = a) σ ρ := by
        refine ⟨S.len, fun j m ej => ?_, S.dom, x, S.sep⟩
        obtain ⟨u, g1, g2⟩ := S.var j m ej
        exact ⟨u, g1, g2.mono (fun _ h => h) fun b _ _ ob => .inl ob⟩
      refine ⟨_, S1.store hf (show RepM K F H (fun b => O b ∨ b = a) (.ref a) (.ol false xs) from ⟨a, vs, rfl, .inr rfl, ha, hd⟩) fun _ j m' nj ej oj ej2 => ?_, pins_set hf, fun b hb => ?_⟩
      · obtain ⟨u, g1, g2⟩ := S.var j m' ej
        rw [ej2] at g1
        cases g1
        obtain ⟨b, eb, ob⟩ := g2.own oj
        cases eb
        exact no ob
      · rcases hb with hb | rfl
        · exact .inl hb
        · exact .inr ⟨rfl, h0, by rw [ha]; simp, rfl⟩
    | newd xs =>
      cases e
      obtain ⟨a, vs, rfl, nf, no, h0, ha, hd, hd2⟩ := h
      have x : ∀ b, (O b ∨ b = a) → H b ≠ none ∧ ¬ F b := fun b hb => by
        rcases hb with hb | rfl
        · exact S.odom b hb
        · exact ⟨by rw [ha]; simp, nf⟩
      have S1 : StI K F H (fun b => O b ∨ b = a) σ ρ := by
        refine ⟨S.len, fun j m ej => ?_, S.dom, x, S.sep⟩
        obtain ⟨u, g1, g2⟩ := S.var j m ej
        exact ⟨u, g1, g2.mono (fun _ h => h) fun b _ _ ob => .inl ob⟩
      refine ⟨_, S1.store hf (show RepM K F H (fun b => O b ∨ b = a) (.ref a) (.od false xs) from ⟨a, vs, rfl, .inr rfl, ha, hd, hd2⟩) fun _ j m' nj ej oj ej2 => ?_, pins_set hf, fun b hb => ?_⟩
      · obtain ⟨u, g1, g2⟩ := S.var j m' ej
        rw [ej2] at g1
        cases g1
        obtain ⟨b, eb, ob⟩ := g2.own oj
        cases eb
        exact no ob
      · rcases hb with hb | rfl
        · exact .inl hb
        · exact .inr ⟨rfl, h0, by rw [ha]; simp, rfl⟩
    | ob C fs =>
      cases e
      exact ⟨O, S.store hf (show RepM K F H O v (.ob C fs) from h) fun z => (by cases z), pins_set hf, fun _ h => .inl h⟩
    | own j => cases e
    | sc ns => cases e
  · cases e
theorem setR_ex {i : Nat} {r : R} {z : Xn} (e : setR i r ρ = .ex z ρ') : False := by
  unfold setR at e
  split at e
  · cases r <;> cases e
  · cases e
/-- .. the other value is untouched -/
theorem RepR.over {H0 : Hp} {v : V} {r : R} {σ2 : L2.St} (ho : ∀ i, r ≠ .own i) (h : RepR K H0 F H O σ v r) (n : ∀ a, O' a → O a ∨ H0 a ≠ none) : RepR K H0 F H O' σ2 v r := by
  cases r with
  | val d => exact h
  | new xs =>
    obtain ⟨a, vs, e, nf, no, h0, ha, hd⟩ := h
    exact ⟨a, vs, e, nf, fun q => by rcases n a q with q | q; exact no q; exact q h0, h0, ha, hd⟩
  | newd xs =>
    obtain ⟨a, vs, e, nf, no, h0, ha, hd⟩ := h
    exact ⟨a, vs, e, nf, fun q => by rcases n a q with q | q; exact no q; exact q h0, h0, ha, hd⟩
  | own i => exact absurd rfl (ho i)
  | ob C fs => exact h
  | sc ns => exact h
theorem still_own {r r2 : R} (e : R.still r ρ = .ok r2 ρ') : ∀ i, r2 ≠ .own i := by
  intro i z
  subst z
  cases r with
  | own j =>
    obtain ⟨d, ρ1, e1, e2⟩ := out_bind (show ((MI.frz (.own j) ρ).bind fun d ρ => (.ok (.val d) ρ : Out R)) = .ok (.own i) ρ' from e)
    cases e2
  | _ => cases e
theorem pds_par {i j : Nat} {x y : Str} {a b : Expr} {xa xb : Ex} {px py pt pos : Pos} {kt k2 pt2} (hc : X.calm = true) (hN : X.N.Nodup) (hi : X.N[i]? = some x) (hj : X.N[j]? = some y)
    (hx : X.env.scope.names.lookup x = some .local) (hy : X.env.scope.names.lookup y = some .local) (hs1 : noStar a = true) (hs2 : noStar b = true)
    (hw : swappedStores [.Tuple [.Name x px, .Name y py] kt pt] (.Tuple [a, b] k2 pt2) X.env = pure (some [x, y])) (ha : PD X xr W a (evE cx xa)) (hb : PD X xr W b (evE cx xb)) (hij : i ≠ j) :
    PDst X xr W (.Assign [.Tuple [.Name x px, .Name y py] kt pt] (.Tuple [a, b] k2 pt2) pos) (evS cx (.par i j xa xb)) := by
  obtain ⟨ta, pa, ka⟩ := ha.run
  obtain ⟨tb, pb, kb⟩ := hb.run
  refine ⟨_, ps_par hc hN hi hj hij hx hy (pa_cons pa (pa_cons pb pa_nil (star_one hs2 _ _)) (star_one hs1 _ _)) hw rfl, fun F H O σ ρ D S w => ?_⟩
  simp only [evS] at w
  rw [bindA] at w
  refine ka F H O σ ρ _ S (WantS.seq .refl (.refl _ _) w fun r ρ1 F1 H1 O1 v S1 _ t1 p1 r1 w => ?_)
  cases e : R.still r ρ1 with
  | no => rw [e] at w; exact w.elim
  | ex z ρ2 => exact (still_ex e).elim
  | ok ra ρ2 =>
    rw [e] at w
    obtain ⟨F2, O2, S2, rr, p2, f1, f2, f3⟩ := still_ok S1 r1 e
    have oa := still_own e
    have t2 := stp_pass t1 f1 f2 f3
    have w' : WantS X.K xr W F H O σ ρ (((evE cx xb ρ2).bind R.still).bind fun rb ρ => if i = j then .no else (setR i ra ρ).bind fun _ ρ => (setR j rb ρ).bind fun _ ρ => .ok .next ρ) D := w
    rw [bindA] at w'
    refine kb F2 H1 O2 σ ρ2 _ S2 (WantS.seq t2 (p1.then p2) w' fun r' ρ3 F3 H3 O3 v2 S3 t23 t3 p3 r3 w => ?_)
    cases e2 : R.still r' ρ3 with
    | no => rw [e2] at w; exact w.elim
    | ex z ρ4 => exact (still_ex e2).elim
    | ok rb ρ4 =>
      rw [e2] at w
      obtain ⟨F4, O4, S4, rr2, p4, g1, g2, g3⟩ := still_ok S3 r3 e2
      have ob := still_own e2
      have t4 := stp_pass t3 g1 (fun c hc4 => by rcases g2 c hc4 with q | q | q; exact .inl q; exact .inr (.inl (t2.none q)); exact .inr (.inr q)) g3
      have t24 := stp_pass t23 g1 g2 g3
      have w' : WantS X.K xr W F H O σ ρ (if i = j then .no else (setR i ra ρ4).bind fun _ ρ => (setR j rb ρ).bind fun _ ρ => .ok .next ρ) D := w
      rw [if_neg hij] at w'
      have ra4 : RepR X.K H F4 H3 O4 σ v ra := rr.stp S2 t24
      cases e3 : setR i ra ρ4 with
      | no => rw [e3] at w'; exact w'.elim
      | ex z ρ5 => exact (setR_ex e3).elim
      | ok u ρ5 =>
        rw [e3] at w'
        obtain ⟨O5, S5, p5, q5⟩ := setR_ok S4 ra4 e3
        have na : ∀ c, v = .ref c → isNew ra = true → H1 c ≠ none := fun c ev hn => by
          cases ra with
          | new xs => obtain ⟨c', vs, ec, _, _, _, hc', _⟩ := rr; rw [ev] at ec; cases ec; rw [hc']; simp
          | newd xs => obtain ⟨c', vs, ec, _, _, _, hc', _⟩ := rr; rw [ev] at ec; cases ec; rw [hc']; simp
          | _ => cases hn
        have rb5 : RepR X.K H1 F4 H3 O5 (σ.set i (some v)) v2 rb := RepR.over ob rr2 fun c hc5 => by
          rcases q5 c hc5 with q | ⟨q, _, _, hn⟩
          · exact .inl q
          · exact .inr (na c q hn)
        have w' : WantS X.K xr W F H O σ ρ ((setR j rb ρ5).bind fun _ ρ => .ok .next ρ) D := w'
        cases e4 : setR j rb ρ5 with
        | no => rw [e4] at w'; exact w'.elim
        | ex z ρ6 => exact (setR_ex e4).elim
        | ok u ρ6 =>
          rw [e4] at w'
          obtain ⟨O6, S6, p6, q6⟩ := setR_ok S5 rb5 e4
          refine ⟨v, v2, rfl, w' F4 H3 O6 _ S6 ⟨t4.fz, t4.fz', fun c hc6 => ?_, t4.hp, t4.all⟩ (((p3.then p4).trans p5).trans p6)⟩
          rcases q6 c hc6 with q | ⟨_, q, _, _⟩
          · rcases q5 c q with q | ⟨_, q, _, _⟩
            · exact t4.ow c q
            · exact .inr q
          · exact .inr (t2.none q)
theorem sw_par {x y : Str} {a b : Expr} {px py pt : Pos} {kt k2 pt2} {env : PySem.Env} (hk : env.scope.kind = .function) (hx : env.scope.names.lookup x = some .local) (hy : env.scope.names.lookup y = some .local) (hl : (py.line == px.line) = true) (hxy : x ≠ y)
    (ha : noStar a = true) (hb : noStar b = true) (h1 : [a, b].all (foldedForSure 8) = false) (h2 : [a, b].all (constantsAlone 8) = false) : swappedStores [.Tuple [.Name x px, .Name y py] kt pt] (.Tuple [a, b] k2 pt2) env = pure (some [x, y]) := by
  have e1 : env.blockKind = .function := by
    unfold PySem.Env.blockKind
    rw [hk]
    rfl
  have e2 : env.kindOf x = some .local := hx
  have e3 : env.kindOf y = some .local := hy
  have st : ∀ e : Expr, noStar e = true → (match e with | .Starred .. => true | _ => false) = false := by
    intro e h
    cases e <;> first | rfl | (simp [noStar] at h)
  have s1 : ([a, b].any fun | .Starred .. => true | _ => false) = false := by
    simp only [List.any_cons, List.any_nil, Bool.or_false]
    rw [st a ha, st b hb]
    rfl
  unfold swappedStores
  have n1 : ([.Name x px, .Name y py] : List Expr).filterMap (fun
    | .Name id pos => if env.kindOf id == some .local && pos.line == ((([.Name x px, .Name y py] : List Expr).head?.map (·.pos.line)).getD 0) then some id else none
    | _ => none) = [x, y] := by
    have l1 : (px.line == ((([.Name x px, .Name y py] : List Expr).head?.map (·.pos.line)).getD 0)) = true := by
      show (px.line == px.line) = true
      simp
    have l2 : (py.line == ((([.Name x px, .Name y py] : List Expr).head?.map (·.pos.line)).getD 0)) = true := hl
    simp only [List.filterMap_cons, List.filterMap_nil, e2, e3, l1, l2, beq_self_eq_true, Bool.and_true, if_true]
  have n2 : ([x, y] : List Str).eraseDups = [x, y] := by
    have : (y == x) = false := beq_eq_false_iff_ne.mpr fun z => hxy z.symm
    rw [List.eraseDups_cons]
    simp [this, List.eraseDups_cons]
  generalize hf : (([.Name x px, .Name y py] : List Expr).filterMap (fun
    | .Name id pos => if env.kindOf id == some .local && pos.line == ((([.Name x px, .Name y py] : List Expr).head?.map (·.pos.line)).getD 0) then some id else none
    | _ => none)) = names at n1
  subst n1
  refine (if_neg (by rw [e1]; exact fun h => by cases h)).trans ?_
  refine (if_neg (show ¬ (([a, b].any fun | .Starred .. => true | _ => false) = true) by rw [s1]; decide)).trans ?_
  have c3 : ¬ ((([x, y] : List Str).length != 2 || ([x, y] : List Str).eraseDups.length != ([x, y] : List Str).length) = true) := by
    rw [n2]
    exact fun h => by cases h
  rw [← hf] at c3
  refine (if_neg c3).trans ?_
  refine (if_neg (by rw [h1]; decide)).trans ?_
  refine (if_neg (by rw [h2]; decide)).trans ?_
  exact congrArg (fun l => (pure (some l) : Sem (Option (List Str)))) hf
end
end MI
namespace MI
open PySem PySem.Spec PyProof.Rows L2
variable {K : PySem.W.Frag} {F F' : Fz} {H H' : Hp} {O O' : Fz} {σ σ' : L2.St} {ρ ρ' : Env} {xr : XRep} {W : WX}
/-! ### a call that only reads: own lists stand as shared ones for its time -/
theorem atom_dat {v : V} {d : D} (h : atomD d = true) (hd : Dat K F H v d) : Dat K F' H' v d := by
  cases hd with
  | non => exact .non
  | bl b => exact .bl b
  | int i => exact .int i
  | str x => exact .str x
  | lst _ _ _ => cases h
  | tup _ _ _ => cases h
  | ktup _ _ => cases h
  | dK _ _ _ _ => cases h
theorem atom_dats : ∀ {vs : List V} {ds : List D}, ds.all atomD = true → Dats K F H vs ds → Dats K F' H' vs ds
  | [], [], _, _ => .nil
  | v :: vs, d :: ds, h, .cons a b => by
    rw [List.all_cons, Bool.and_eq_true] at h
    exact .cons (atom_dat h.1 a) (atom_dats h.2 b)
/-- what may be lent: no tuple -/
abbrev LentB (H : Hp) (O : Fz) : Fz := fun a => O a ∧ ∀ xs, H a ≠ some (.tup xs)
mutual
theorem tup_dat (k : ∀ a xs, F a → H a = some (.tup xs) → F' a) : ∀ (d : D) {v : V}, tupD d = true → Dat K F H v d → Dat K F' H v d
  | .none, _, _, hd => by cases hd; exact .non
  | .bool b, _, _, hd => by cases hd; exact .bl b
  | .int i, _, _, hd => by cases hd; exact .int i
  | .str x, _, _, hd => by cases hd; exact .str x
  | .tuple ds, _, h, hd => by
    have h : tupDs ds = true := h
    cases hd with
    | tup f e t => exact .tup (k _ _ f e) e (tup_dats k ds h t)
    | ktup e t => exact .ktup e (tup_dats k ds h t)
  | .list _, _, h, _ => by cases h
  | .dict _, _, h, _ => by cases h
theorem tup_dats (k : ∀ a xs, F a → H a = some (.tup xs) → F' a) : ∀ (ds : List D) {vs : List V}, tupDs ds = true → Dats K F H vs ds → Dats K F' H vs ds
  | [], _, _, h => by cases h; exact .nil
  | d :: ds, _, h, t => by
    have h : (tupD d && tupDs ds) = true := h
    rw [Bool.and_eq_true] at h
    cases t with
    | cons a b => exact .cons (tup_dat k d h.1 a) (tup_dats k ds h.2 b)
end
theorem borrow_dat {H0 : Hp} {v : V} {r : R} {d : D} (S : StI K F H O σ ρ) (h : RepR K H0 F H O σ v r) (e : r.cont ρ = some d) (nn : ∀ xs, r ≠ .new xs) (nd : ∀ xs, r ≠ .newd xs) : Dat K (fun a => F a ∨ LentB H O a) H v d := by
  have xt : Ext F H (fun a => F a ∨ LentB H O a) H := fun a f => ⟨.inl f, rfl⟩
  cases r with
  | val x => cases e; exact Dat.ext xt h
  | new xs => exact absurd rfl (nn xs)
  | newd xs => exact absurd rfl (nd xs)
  | ob C fs => cases e
  | sc ns => cases e
  | own i =>
    have e : (ρ.get i).bind M.cont = some d := e
    cases q : ρ.get i with
    | none => rw [q] at e; cases e
    | some m =>
      rw [q] at e
      obtain ⟨w, hw, rm⟩ := S.var i m q
      have ew : w = v := by
        have := hw.symm.trans h
        simpa using this
      subst ew
      cases m with
      | sh x => cases e; exact Dat.ext xt rm
      | ol p xs =>
        cases e
        obtain ⟨a, vs, rfl, oa, ha, hd⟩ := rm
        exact .lst (.inr ⟨oa, fun xs e => by rw [ha] at e; cases e⟩) ha (Dats.ext xt hd)
      | od p xs =>
        cases e
        obtain ⟨a, vs, rfl, oa, ha, hd, hd2⟩ := rm
        exact .dK (.inr ⟨oa, fun xs e => by rw [ha] at e; cases e⟩) ha (Dats.ext xt hd) (Dats.ext xt hd2)
      | ob C fs => cases e
      | sc ns => cases e
/-- handed over by reference: nothing is new -/
theorem held : ∀ {xs : List Ex} {cx : Cxt} {ρ ρ' : Env} {rs : List R}, evRs cx xs [] ρ = .ok rs ρ' → ∀ r ∈ rs, (∀ ys, r ≠ .new ys) ∧ ∀ ys, r ≠ .newd ys
  | [], cx, ρ, ρ', rs, h, r, hr => by
    simp only [evRs] at h
    cases h
    cases hr
  | x :: xs, cx, ρ, ρ', rs, h, r, hr => by
    simp only [evRs] at h
    obtain ⟨r1, ρ1, h1, h⟩ := out_bind h
    obtain ⟨rs', ρ2, h2, h⟩ := out_bind h
    cases h
    rcases List.mem_cons.mp hr with rfl | hr
    · obtain ⟨r0, ρ0, _, h0⟩ := out_bind h1
      cases r0 <;> (cases h0; refine ⟨fun ys e => ?_, fun ys e => ?_⟩ <;> first | (cases e; done) | (simp [R.hold] at e))
    · exact held (xs := xs) (by simpa using h2) r hr
theorem borrowed {H0 : Hp} {all : List V} {rs : List R} (S : StI K F H O σ ρ) (hr : RepRs K H0 F H O σ all rs) (hh : ∀ r ∈ rs, (∀ ys, r ≠ .new ys) ∧ ∀ ys, r ≠ .newd ys) : ∀ {src : List Arg} {ds : List D} {out : List V}, borrow ρ rs src = some ds → Pick K all src out → Dats K (fun a => F a ∨ LentB H O a) H out ds
  | [], _, _, e, p => by
    cases p
    cases e
    exact .nil
  | .d x :: src, _, _, e, p => by
    cases p with
    | d hd p =>
      simp only [borrow, Option.map_eq_some_iff] at e
      obtain ⟨ds', e1, rfl⟩ := e
      exact .cons (hd _ _) (borrowed S hr hh e1 p)
  | .e k :: src, _, _, e, p => by
    cases p with
    | e hk p =>
      simp only [borrow, Option.bind_eq_some_iff, Option.map_eq_some_iff] at e
      obtain ⟨r, hrk, d, hm, ds', e1, rfl⟩ := e
      obtain ⟨v', hv', rr⟩ := hr.get hrk
      have : v' = _ := Option.some.inj (hv'.symm.trans hk)
      subst this
      obtain ⟨n1, n2⟩ := hh r (List.mem_of_getElem? hrk)
      exact .cons (borrow_dat S rr hm n1 n2) (borrowed S hr hh e1 p)
theorem rep_sh : ∀ {vs : List V} {ds : List D}, Dats K F H vs ds → RepMs K F H O vs (ds.map .sh)
  | _, _, .nil => .nil
  | _, _, .cons a b => .cons a (rep_sh b)
theorem sh_at {ds : List D} {i : Nat} {m : M} (h : (ds.map M.sh)[i]? = some m) : m.isOwn = false := by
  rw [List.getElem?_map, Option.map_eq_some_iff] at h
  obtain ⟨d, _, rfl⟩ := h
  rfl
theorem callB_run {X : Cx} {cx : Cxt} {n f : Nat} {t tk : TA} {gV : List V → List V → List V} {xs : List Ex} {src : List Arg} (ka : RunR X xr W t (evRs cx xs [])) (kb : RunR X xr W tk (evRs cx [] []))
    (l1 : ∀ {ρ ρ' rs}, evRs cx xs [] ρ = .ok rs ρ' → rs.length = n) (hp : ∀ vs zs : List V, vs.length = n → zs.length = 0 → Pick X.K (vs ++ zs) src (gV vs zs)) :
    RunE X xr W (tCallM n 0 (SpMi X.K xr (cx.φ f)) gV W t tk) (evE cx (.callB f xs src)) := by
  intro F H O σ ρ Q S w
  simp only [evE] at w
  cases e1 : evRs cx xs [] ρ with
  | no => rw [e1] at w; exact w.elim
  | ex z ρ1 =>
    rw [e1] at w
    exact ka F H O σ ρ _ S (by rw [e1]; exact w)
  | ok rs ρ1 =>
    rw [e1] at w
    refine ka F H O σ ρ _ S ?_
    rw [e1]
    intro F1 H1 O1 vs S1 t1 p1 r1
    have w1 : WantE X.K xr W σ F H O ρ (callRB cx f rs src ρ1) Q := w
    refine kb F1 H1 O1 σ ρ1 _ S1 ?_
    simp only [evRs]
    intro F2 H2 O2 zs S2 t12 p12 r2
    have lv : vs.length = n := by rw [r1.length]; exact l1 e1
    have lz : zs.length = 0 := r2.length
    refine ⟨lv, lz, ?_⟩
    have hz : zs = [] := List.length_eq_zero_iff.mp lz
    have rr : RepRs X.K H F2 H2 O2 σ (vs ++ zs) rs := by rw [hz, List.append_nil]; exact r1.stp S1 t12
    have t2 := t1.trans t12
    have p2 := p1.trans p12
    unfold callRB at w1
    cases eb : borrow ρ1 rs src with
    | none => rw [eb] at w1; exact w1.elim
    | some ds =>
      rw [eb] at w1
      dsimp only at w1
      have dd := borrowed S2 rr (held e1) eb (hp vs zs lv lz)
      have grow : ∀ {F3 : Fz} {H3 : Hp}, CallStp (fun a => F2 a ∨ LentB H2 O2 a) H2 (fun _ => False) F3 H3 → ∀ a, H2 a ≠ none → H3 a = H2 a := fun C a na => C.hp a na id
      have st : ∀ {H3 : Hp}, (∀ a, H2 a ≠ none → H3 a = H2 a) → Stp F H O F2 H3 O2 := fun kp => t2.trans ⟨fun _ h => h, fun _ h => .inl h, fun _ h => .inl h, fun c n _ => kp c n, fun c n => by rw [kp c n]; exact n⟩
      refine ⟨fun a => F2 a ∨ LentB H2 O2 a, fun _ => False, ds.map .sh, ⟨rep_sh dd, fun a h => ?_, fun a h => h.elim, fun i j a m m' ne e1 e2 o1 => ?_, fun a h => h.elim⟩, ?_⟩
      · rcases h with h | h
        · exact S2.dom a h
        · exact (S2.odom a h.1).1
      · rw [sh_at e1] at o1
        cases o1
      · cases ef : cx.φ f (ds.map .sh) with
        | no => rw [ef] at w1; exact w1.elim
        | ex x fin => rw [ef] at w1; exact w1.elim
        | ret m fin =>
          rw [ef] at w1
          intro F3 H3 v C fo ro
          have kp := grow C
          cases m with
          | sh d =>
            dsimp only at w1
            split at w1
            · rename_i ha
              have sg := (S2.grow kp).more (fun a => H2 a = none ∧ F3 a) fun a q => ⟨C.dom a q.2, fun o => (S2.odom a o).1 q.1⟩
              refine w1 (fun a => F2 a ∨ H2 a = none ∧ F3 a) H3 O2 v sg ?_ p2 (tup_dat (fun a xs f e => ?_) d ha ro)
              · have s0 := st kp
                refine ⟨fun a h => .inl (s0.fz a h), fun a h => ?_, s0.ow, s0.hp, s0.all⟩
                rcases h with h | h
                · exact s0.fz' a h
                · exact .inr (.inl (t2.none h.1))
              · rcases C.fz' a f with (h | h) | h
                · exact .inl h
                · have := kp a (S2.odom a h.1).1
                  rw [e] at this
                  exact absurd this.symm (h.2 xs)
                · exact .inr ⟨h, f⟩
            · exact w1.elim
          | ol p ys =>
            dsimp only at w1
            split at w1
            · rename_i ha
              obtain ⟨a, us, e, nf, na, hb, hd⟩ := ro
              exact w1 F2 H3 O2 v (S2.grow kp) (st kp) p2 ⟨a, us, e, fun h => S2.dom a h na, fun h => (S2.odom a h).1 na, t2.none na, hb, atom_dats ha hd⟩
            · exact w1.elim
          | od p ys => exact w1.elim
          | ob C' fs => exact w1.elim
          | sc ns => exact w1.elim
end MI
namespace MI
open PySem PySem.Spec PyProof.Rows L2
/-! ### set(t), t a tuple of tuples of ints; set(xs), xs a list of ints -/
abbrev nuSet (w : World) : Obj := { cls := .type "set", dict := none, data := .set #[] 0 (.fresh 0 0 (!w.params.followText "set-order")) }
section
variable {P : Program} {w : World} {A : Around} {E : Value → Shared → Prop} {s : Shared}
theorem set_of_tt {tp : Addr} {its : Array Value} (ks : List (Addr × List Int)) {Q : Value → Shared → Prop} (noH : A.handled = none) (ht : s.heap.IsTuple tp its) (hi : its.toList = ks.map fun p => Value.ref p.1)
    (hk : ∀ p ∈ ks, IsT P w s.heap p.2 p.1) (few : ks.length < 64) (hu : A.units + 3 < cLine)
    (fin : ∀ (h2 : Heap) (tk : Nat) L es ep t, SetTR P w h2 s.heap.objs.size L es ep t → Got ks ks.length L → (∀ b o, s.heap.get? b = some o → h2.get? b = some o) → Q (.ref s.heap.objs.size) { s with heap := h2, toks := tk }) :
    wpAny (model P w) A (call (.type "set") [.ref tp]) Q E s := by
  have lk : its.size = ks.length := by
    rw [← Array.length_toList, hi, List.length_map]
  obtain ⟨c, tl, mro⟩ := F.called_set.mro
  have made := F.called_set.made
  have sub := F.called_set.sub
  apply wpAny_call
  apply codeAny_of_tree
  show wpAny _ _ (callAny (.type "set") _) _ _ _
  apply wpAny_pure
  refine ⟨Code.quiet_builtin _ (by decide +kernel), ?_⟩
  apply codeAny_builtin F.entry_type_call
  rw [Around.under_plain (weight_type_call_type "set" [.ref tp] []) rfl]
  have n1 := F.called_set.notType
  have n2 := F.called_set.canCreate
  have n3 := F.typeCall_set_1 (.ref tp)
  repeat (any_goals (first | assumption | wp_step))
  refine codeAny_mono (code_set_led1 (.ref tp) (E := E) (Q₁ := fun ob s₁ => ob = .ref s.heap.objs.size ∧ s₁ = { s with heap := s.heap.push (nuSet w) }) ⟨rfl, rfl⟩) fun r s₁ hr => ?_
  match r, hr with
  | .error e, hr => exact hr
  | .ok .next, hr => exact hr.elim
  | .ok .brk, hr => exact hr.elim
  | .ok .cont, hr => exact hr.elim
  | .ok (.ret ob), hr =>
    obtain ⟨rfl, rfl⟩ := hr
    have at0 : (s.heap.push (nuSet w)).get? s.heap.objs.size = some (nuSet w) := Heap.get?_push_size _ rfl
    have ty : Shared.TypeIs { s with heap := s.heap.push (nuSet w) } (.ref s.heap.objs.size) "set" := ⟨_, at0, rfl⟩
    have i1 := F.called_set.init.lookup
    have i2 := F.called_set.init.bind (.ref s.heap.objs.size)
    repeat (any_goals (first | assumption | wp_step))
    refine codeAny_mono (codeAny_call_builtin (R := wants (fun r s₂ => r = .none ∧ ∃ h2 tk L es ep t, s₂ = { s with heap := h2, toks := tk } ∧ SetTR P w h2 s.heap.objs.size L es ep t ∧ Got ks ks.length L ∧ (∀ b o, s.heap.get? b = some o → h2.get? b = some o)) E) F.called_set.init.plain F.entry_set_init (check_set_init_1 ty ?_)) fun r₂ s₂ hr₂ => ?_
    · obtain ⟨⟨oc, od, dt, sl⟩, ho, hc, n, hd⟩ := ht
      simp only at hc hd
      subst hc hd
      have ho2 : (s.heap.push (nuSet w)).get? tp = some { cls := .type "tuple", dict := od, data := .seq its n, slots := sl } := Heap.get?_push_of_some _ ho
      have m1 := F.sub_tuple_set
      have m2 := F.sub_tuple_frozenset
      have m3 : (Value.type "tuple" == Value.type "dict") = false := by decide
      have ht2 : (s.heap.push (nuSet w)).IsTuple tp its := ⟨_, ho2, rfl, n, rfl⟩
      unfold Builtin.«set.__init__» noKeywords Builtin.Frozenset.updateFrom
      generalize hPI : pyIter = PI
      wp_walk
      subst hPI
      apply wpAny_pyIter_tuple ht2
      apply wpAny_bind
      apply wpAny_runValue
      have tlt : tp < s.heap.objs.size := Heap.lt_size ho
      have noH3 : A.in1.in1.in1.handled = none := by simp [noH]
      have sz : (s.heap.push (nuSet w)).objs.size = s.heap.objs.size + 1 := Heap.size_push ..
      have ne : tp ≠ (s.heap.push (nuSet w)).objs.size := by rw [sz]; exact Nat.ne_of_lt (Nat.lt_succ_of_lt tlt)
      have nin : s.heap.objs.size ∉ [(s.heap.push (nuSet w)).objs.size, tp] := by
        rw [sz]
        simp only [List.mem_cons, List.not_mem_nil, or_false, not_or]
        exact ⟨Nat.ne_of_lt (Nat.lt_succ_self _), Nat.ne_of_gt tlt⟩
      have val : ∀ (i : Nat) (v : Value), its[i]? = some v → ∃ p, ks[i]? = some p ∧ v = .ref p.1 := fun i v hv => by
        have q : its.toList[i]? = some v := by rw [Array.getElem?_toList]; exact hv
        rw [hi, List.getElem?_map, Option.map_eq_some_iff] at q
        obtain ⟨p, q1, q2⟩ := q
        exact ⟨p, q1, q2.symm⟩
      have gone : ∀ b, s.heap.objs.size ≤ b → s.heap.get? b = none := fun b hb => by
        cases q : s.heap.get? b with
        | none => rfl
        | some o => exact absurd (Nat.lt_of_lt_of_le (Heap.lt_size q) hb) (Nat.lt_irrefl _)
      refine set_update_tups ((Walks.tuple noH3 _ tp ne its).toS) s.heap.objs.size nin ks lk few val s.heap hk (gone _ (Nat.le_refl _)) (fun b hb => gone b (by rw [List.mem_singleton.mp hb, sz]; exact Nat.le_succ _)) hu (its.size - 0) 0 _ (by omega) (Nat.zero_le _)
        ⟨⟨_, Heap.get?_push_size _ rfl, rfl, rfl⟩, (ht2.push _)⟩ (fun b o e => Heap.get?_push_of_some _ (Heap.get?_push_of_some _ e)) ?start ?rest
      case start =>
        have at1 : ((s.heap.push (nuSet w)).push { cls := .type "tuple_iterator", data := .fields #[.ref tp, .int 0 0] }).get? s.heap.objs.size = some (nuSet w) := Heap.get?_push_of_some _ at0
        exact ⟨[], #[], 0, _, setTR_fresh at1, Got.zero ks⟩
      case rest =>
        intro s' L es ep t mv S' G' kp
        obtain ⟨h2, g2, d2, tk2, os2⟩ := s'
        obtain rfl : g2 = s.gens := mv.gens
        obtain rfl : d2 = s.drawn := mv.drawn
        obtain rfl : os2 = s.os := mv.os
        show wpAny _ _ _ _ _ _
        apply wpAny_pure
        show wpAny _ _ (ret Value.none) _ _ _
        rw [lk] at G'
        exact wpAny_pure ⟨rfl, h2, tk2, L, es, ep, t, rfl, S', G', kp⟩
    · match r₂, hr₂ with
      | .error e, hr₂ => exact hr₂
      | .ok .next, hr₂ => exact hr₂.elim
      | .ok .brk, hr₂ => exact hr₂.elim
      | .ok .cont, hr₂ => exact hr₂.elim
      | .ok (.ret r), hr₂ =>
        obtain ⟨rfl, h2, tk, L, es, ep, t, rfl, S', G', kp⟩ := hr₂
        repeat (any_goals (first | assumption | wp_step))
        exact fin _ _ _ _ _ _ S' G' kp
theorem set_of_li {tp : Addr} {its : Array Value} (ns : List Int) {Q : Value → Shared → Prop} (noH : A.handled = none) (ht : s.heap.IsList tp its) (hi : IntsAre its.toList ns) (few : ns.length + 1 < scanBound)
    (fin : ∀ (h2 : Heap) (tk c : Nat), SetR w h2 s.heap.objs.size (fun j => decide (j ∈ ns)) c → c ≤ ns.length → (∀ b o, s.heap.get? b = some o → h2.get? b = some o) → Q (.ref s.heap.objs.size) { s with heap := h2, toks := tk }) :
    wpAny (model P w) A (call (.type "set") [.ref tp]) Q E s := by
  have lk : its.size = ns.length := by
    rw [← Array.length_toList]
    exact IntsAre.length hi
  obtain ⟨c, tl, mro⟩ := F.called_set.mro
  have made := F.called_set.made
  have sub := F.called_set.sub
  apply wpAny_call
  apply codeAny_of_tree
  show wpAny _ _ (callAny (.type "set") _) _ _ _
  apply wpAny_pure
  refine ⟨Code.quiet_builtin _ (by decide +kernel), ?_⟩
  apply codeAny_builtin F.entry_type_call
  rw [Around.under_plain (weight_type_call_type "set" [.ref tp] []) rfl]
  have n1 := F.called_set.notType
  have n2 := F.called_set.canCreate
  have n3 := F.typeCall_set_1 (.ref tp)
  repeat (any_goals (first | assumption | wp_step))
  refine codeAny_mono (code_set_led1 (.ref tp) (E := E) (Q₁ := fun ob s₁ => ob = .ref s.heap.objs.size ∧ s₁ = { s with heap := s.heap.push (nuSet w) }) ⟨rfl, rfl⟩) fun r s₁ hr => ?_
  match r, hr with
  | .error e, hr => exact hr
  | .ok .next, hr => exact hr.elim
  | .ok .brk, hr => exact hr.elim
  | .ok .cont, hr => exact hr.elim
  | .ok (.ret ob), hr =>
    obtain ⟨rfl, rfl⟩ := hr
    have at0 : (s.heap.push (nuSet w)).get? s.heap.objs.size = some (nuSet w) := Heap.get?_push_size _ rfl
    have ty : Shared.TypeIs { s with heap := s.heap.push (nuSet w) } (.ref s.heap.objs.size) "set" := ⟨_, at0, rfl⟩
    have i1 := F.called_set.init.lookup
    have i2 := F.called_set.init.bind (.ref s.heap.objs.size)
    repeat (any_goals (first | assumption | wp_step))
    refine codeAny_mono (codeAny_call_builtin (R := wants (fun r s₂ => r = .none ∧ ∃ h2 tk c, s₂ = { s with heap := h2, toks := tk } ∧ SetR w h2 s.heap.objs.size (fun j => decide (j ∈ ns)) c ∧ c ≤ ns.length ∧ (∀ b o, s.heap.get? b = some o → h2.get? b = some o)) E) F.called_set.init.plain F.entry_set_init (check_set_init_1 ty ?_)) fun r₂ s₂ hr₂ => ?_
    · obtain ⟨⟨oc, od, dt, sl⟩, ho, hc, n, hd⟩ := ht
      simp only at hc hd
      subst hc hd
      have ho2 : (s.heap.push (nuSet w)).get? tp = some { cls := .type "list", dict := od, data := .seq its n, slots := sl } := Heap.get?_push_of_some _ ho
      have m1 := F.sub_list_set
      have m2 := F.sub_list_frozenset
      have m3 : (Value.type "list" == Value.type "dict") = false := by decide
      have ht2 : (s.heap.push (nuSet w)).IsList tp its := ⟨_, ho2, rfl, n, rfl⟩
      unfold Builtin.«set.__init__» noKeywords Builtin.Frozenset.updateFrom
      generalize hPI : pyIter = PI
      wp_walk
      subst hPI
      apply wpAny_pyIter_list ht2
      apply wpAny_bind
      apply wpAny_runValue
      have tlt : tp < s.heap.objs.size := Heap.lt_size ho
      have noH3 : A.in1.in1.in1.handled = none := by simp [noH]
      have sz : (s.heap.push (nuSet w)).objs.size = s.heap.objs.size + 1 := Heap.size_push ..
      have ne : tp ≠ (s.heap.push (nuSet w)).objs.size := by rw [sz]; exact Nat.ne_of_lt (Nat.lt_succ_of_lt tlt)
      have nin : s.heap.objs.size ∉ [(s.heap.push (nuSet w)).objs.size, tp] := by
        rw [sz]
        simp only [List.mem_cons, List.not_mem_nil, or_false, not_or]
        exact ⟨Nat.ne_of_lt (Nat.lt_succ_self _), Nat.ne_of_gt tlt⟩
      have val : ∀ (i : Nat) (v : Value), its[i]? = some v → ∃ k t, ns[i]? = some k ∧ v = .int k t := fun i v hv => by
        have hlt : i < ns.length := by rw [← lk]; exact (Array.getElem?_eq_some_iff.mp hv).1
        obtain ⟨t, e⟩ := PyProof.Rows.IntsAre.int_at hi i v (by rw [Array.getElem?_toList]; exact hv)
        refine ⟨ns[i], t, List.getElem?_eq_getElem hlt, ?_⟩
        rw [e, List.getD_eq_getElem?_getD, List.getElem?_eq_getElem hlt]
        rfl
      refine set_update_ints ((Walks.list noH3 _ tp ne its).toS) s.heap.objs.size nin ns lk few val (its.size - 0) 0 _ (by omega) (Nat.zero_le _) ⟨⟨_, Heap.get?_push_size _ rfl, rfl, rfl⟩, (ht2.push _)⟩ ?start ?rest
      case start =>
        have at1 : ((s.heap.push (nuSet w)).push { cls := .type "list_iterator", data := .fields #[.ref tp, .int 0 0] }).get? s.heap.objs.size = some (nuSet w) := Heap.get?_push_of_some _ at0
        exact ⟨0, Nat.le_refl 0, setR_new_at at1⟩
      case rest =>
        intro s' c2 mv hc2 S'
        obtain ⟨h2, g2, d2, tk2, os2⟩ := s'
        obtain rfl : g2 = s.gens := mv.gens
        obtain rfl : d2 = s.drawn := mv.drawn
        obtain rfl : os2 = s.os := mv.os
        show wpAny _ _ _ _ _ _
        apply wpAny_pure
        show wpAny _ _ (ret Value.none) _ _ _
        rw [lk] at hc2
        refine wpAny_pure ⟨rfl, h2, tk2, c2, rfl, S', hc2, fun b o e => ?_⟩
        have b0 : b < s.heap.objs.size := Heap.lt_size e
        have b1 : b ≠ s.heap.objs.size := Nat.ne_of_lt b0
        have b2 : b ≠ (s.heap.push (nuSet w)).objs.size := by rw [sz]; exact Nat.ne_of_lt (Nat.lt_succ_of_lt b0)
        refine (mv.heap b o ?_ (Heap.get?_push_of_some _ (Heap.get?_push_of_some _ e)))
        simp only [List.mem_cons, List.not_mem_nil, or_false, not_or]
        exact ⟨b1, b2⟩
    · match r₂, hr₂ with
      | .error e, hr₂ => exact hr₂
      | .ok .next, hr₂ => exact hr₂.elim
      | .ok .brk, hr₂ => exact hr₂.elim
      | .ok .cont, hr₂ => exact hr₂.elim
      | .ok (.ret r), hr₂ =>
        obtain ⟨rfl, h2, tk, c3, rfl, S', G', kp⟩ := hr₂
        repeat (any_goals (first | assumption | wp_step))
        exact fin _ _ _ S' G' kp
end
/-- set(t), t a tuple of tuples -/
def rSetTT (K : PySem.W.Frag) (P : Program) (w : World) : List V → Hp → VK → Prop := fun xs H Q => ∃ (tp : Addr) (ks : List (Addr × List Int)), xs = [V.ref tp] ∧ SqT K H tp (ks.map fun p => V.ref p.1) ∧ (∀ p ∈ ks, SqT K H p.1 (p.2.map V.int)) ∧ ks.length < 64 ∧
  ∀ b L, H b = none → (∀ q ∈ L, q ∈ ks) → (∀ q ∈ ks, q.2 ∈ L.map (·.2)) → Q (.ref b) (upd H b (SetTO P w b L))
theorem cr_setTT {X : Cx} (hc : X.calm = true) (hu : X.A.units + 64 < cLine) : CallR X (.type "set") (rSetTT X.K X.prog X.w) := by
  intro pins s σ H xs us Q I r h
  obtain ⟨tp, ks, rfl, hq, hk, few, q⟩ := h
  rw [Vals.ref1 r]
  obtain ⟨its, rv, pt, hz⟩ := I.tuple hq
  refine set_of_tt (P := X.prog) (w := X.w) ks (I.ok.hd hc) (show s.heap.IsTuple tp its.toArray from pt) (by simpa using refs_of_vals rv) (fun p hp => I.isT (hk p hp)) few (by omega) fun h2 tk L es ep t R g k => ?_
  refine ⟨.ref s.heap.objs.size, upd H s.heap.objs.size (SetTO X.prog X.w s.heap.objs.size L), I.laid (t' := tk) k (Nat.le_refl _) (setTO_new R.t0), rfl, q _ L (I.hok.fresh (Nat.le_refl _)) (fun p hp => List.mem_of_mem_take (g.sub p hp)) fun p hp => g.all p (by rw [List.take_length]; exact hp)⟩
/-- set(xs), xs a list of ints -/
def rSetLI (K : PySem.W.Frag) (w : World) : List V → Hp → VK → Prop := fun xs H Q => ∃ (p : Addr) (ns : List Int), xs = [V.ref p] ∧ SqL K H p (ns.map V.int) ∧ ns.length < 64 ∧
  ∀ (a : Addr) (S : Int → Bool) (c : Nat), (∀ j, S j = true ↔ j ∈ ns) → c ≤ ns.length → H a = none → Q (.ref a) (upd H a (SetO w a S c))
theorem cr_setLI {X : Cx} (hc : X.calm = true) : CallR X (.type "set") (rSetLI X.K X.w) := by
  intro pins s σ H xs us Q I r h
  obtain ⟨p, ns, rfl, hq, hl, q⟩ := h
  rw [Vals.ref1 r]
  obtain ⟨its, rv, pl, hz⟩ := I.list hq
  refine set_of_li ns (I.ok.hd hc) pl.isList (by simpa using ints_of_vals rv) (by unfold scanBound; omega) fun h' tk c R hcn k => ?_
  exact ⟨.ref s.heap.objs.size, upd H s.heap.objs.size (SetO X.w s.heap.objs.size (fun j => decide (j ∈ ns)) c), I.laid (t' := tk) k (Nat.le_refl _) (setO_new R), rfl, q _ _ _ (fun j => by simp) hcn (I.hok.fresh (Nat.le_refl _))⟩
end MI
namespace MI
open PySem PySem.Spec PyProof.Rows L2
variable {K : PySem.W.Frag} {F F' : Fz} {H H' : Hp} {O O' : Fz} {σ σ' : L2.St} {ρ ρ' : Env} {xr : XRep} {W : WX}
section
variable {X : Cx} {cx : Cxt}
abbrev rSrt (X : Cx) : List V → Hp → VK → Prop := fun xs H Q => rSortedT X.K X.prog X.w xs H Q ∨ rSortedSet X.w xs H Q
/-- a set of pairs, sorted -/
theorem srt_pairs {F0 O0 F1 O1 : Fz} {H0 H1 : Hp} {ρ0 ρ1 : Env} {Q : VK} {vs : List V} {xs : List MI.D} {ps : List (Int × Int)} {res : R} (S1 : StI X.K F1 H1 O1 σ ρ1) (t1 : Stp F0 H0 O0 F1 H1 O1) (p1 : Pin ρ0 ρ1) (dt : Dats X.K F1 H1 vs xs) (hp : pairsOf xs = some ps) (he : pairsR ps = some res) (w : WantE X.K xr W σ F0 H0 O0 ρ0 (.ok res ρ1) Q) :
    ∃ ks : List (Addr × List Int), vs = ks.map (fun p => V.ref p.1) ∧ (∀ p ∈ ks, SqT X.K H1 p.1 (p.2.map V.int)) ∧ ks.length < 64 ∧ ∀ b L, H1 b = none → (∀ q ∈ L, q ∈ ks) → (∀ q ∈ ks, q.2 ∈ L.map (·.2)) → rSrt X [V.ref b] (upd H1 b (SetTO X.prog X.w b L)) Q := by
  obtain ⟨h1, rfl⟩ := gd_some he
  simp only [Bool.and_eq_true, decide_eq_true_eq] at h1
  obtain ⟨ks, rfl, e2, e3⟩ := pairs_ok dt hp
  have lk : ks.length = ps.length := by
    have := congrArg List.length e2
    simpa using this
  have okp : ∀ q ∈ ks, ∃ x y, q.2 = [x, y] ∧ (x, y) ∈ ps ∧ 0 ≤ x ∧ x < 64 ∧ 0 ≤ y ∧ y < 64 ∧ Dat X.K F1 H1 (.ref q.1) (.tuple [.int x, .int y]) := fun q hq => by
    obtain ⟨x, y, q1, q2, q3⟩ := e3 q hq
    have := List.all_eq_true.mp h1.2 _ q2
    simp only [okPair, Bool.and_eq_true, decide_eq_true_eq] at this
    exact ⟨x, y, q1, q2, this.1.1.1, this.1.1.2, this.1.2, this.2, q3⟩
  refine ⟨ks, rfl, fun q hq => ?_, by omega, fun b L hb sub all => ?_⟩
  · obtain ⟨x, y, q1, _, _, _, _, _, q3⟩ := okp q hq
    exact pair_sq q1 q3
  · have S2 : StI X.K F1 (upd H1 b (SetTO X.prog X.w b L)) O1 σ ρ1 := S1.laid hb
    have t12 : Stp F1 H1 O1 F1 (upd H1 b (SetTO X.prog X.w b L)) O1 := stp_laid hb
    have x12 := S1.ext t12
    refine .inl ⟨b, L, 2, 64, rfl, upd_same, fun q hq => ?_, by omega, fun q hq => ?_, fun L' r pm nd l64 pw hr => ?_⟩
    · obtain ⟨x, y, q1, _, _, _, _, _, q3⟩ := okp q (sub q hq)
      exact pair_sq q1 (Dat.ext x12 q3)
    · obtain ⟨x, y, q1, _, b1, b2, b3, b4, q3⟩ := okp q (sub q hq)
      rw [q1]
      refine ⟨rfl, fun m hm => ?_⟩
      simp at hm
      rcases hm with rfl | rfl
      · exact ⟨b1, b2⟩
      · exact ⟨b3, b4⟩
    · have okL : ∀ q ∈ L', ∃ x y, q.2 = [x, y] ∧ (x, y) ∈ ps ∧ 0 ≤ x ∧ x < 64 ∧ 0 ≤ y ∧ y < 64 ∧ Dat X.K F1 H1 (.ref q.1) (.tuple [.int x, .int y]) := fun q hq => okp q (sub q (pm.mem_iff.mp hq))
      have cd : ∀ q ∈ L', ∃ x y, q.2 = [x, y] ∧ (x, y) ∈ ps ∧ TS.code 64 q.2 = codeP (x, y) ∧ pairD (TS.code 64 q.2) = .tuple [.int x, .int y] ∧ Dat X.K F1 H1 (.ref q.1) (.tuple [.int x, .int y]) := fun q hq => by
        obtain ⟨x, y, q1, q2, b1, b2, b3, b4, q3⟩ := okL q hq
        have ec : TS.code 64 q.2 = x * 64 + y := by rw [q1, code_pair]
        refine ⟨x, y, q1, q2, ec, ?_, q3⟩
        unfold pairD
        rw [ec, show (x * 64 + y) / 64 = x by omega, show (x * 64 + y) % 64 = y by omega]
      have lt : (L'.map fun q => TS.code 64 q.2).Pairwise (· < ·) := by
        rw [List.pairwise_map]
        have nd' : L'.Pairwise fun a b => a.2 ≠ b.2 := List.pairwise_map.mp nd
        refine List.Pairwise.imp_of_mem (fun {q r} hq hr h => ?_) (pw.and nd')
        obtain ⟨h1, h2⟩ := h
        obtain ⟨x, y, q1, _, b1, b2, b3, b4, _⟩ := okL q hq
        obtain ⟨x', y', q1', _, b1', b2', b3', b4', _⟩ := okL r hr
        rw [q1, q1'] at h1 h2 ⊢
        rcases pair_lt h1 h2 ⟨b1, b2⟩ ⟨b3, b4⟩ ⟨b1', b2'⟩ ⟨b3', b4'⟩ with h | h
        · rw [code_pair, code_pair]; omega
        · rw [code_pair, code_pair]; omega
      have eq : (L'.map fun q => TS.code 64 q.2) = ssetI (ps.map codeP) := by
        refine sorted_eq lt (ssetI_lt _) fun c => ?_
        rw [ssetI_mem, List.mem_map, List.mem_map]
        constructor
        · rintro ⟨q, hq, rfl⟩
          obtain ⟨x, y, q1, q2, ec, _⟩ := cd q hq
          exact ⟨_, q2, ec.symm⟩
        · rintro ⟨z, hz, rfl⟩
          have hz2 : [z.1, z.2] ∈ ks.map (·.2) := by
            rw [e2]
            exact List.mem_map.mpr ⟨z, hz, rfl⟩
          obtain ⟨q, hq, eq2⟩ := List.mem_map.mp hz2
          obtain ⟨q', hq', eq3⟩ := List.mem_map.mp (all q hq)
          refine ⟨q', pm.mem_iff.mpr hq', ?_⟩
          rw [eq3, eq2, code_pair]
          rfl
      have dd : Dats X.K F1 (upd H1 b (SetTO X.prog X.w b L)) (L'.map fun q => V.ref q.1) ((ssetI (ps.map codeP)).map pairD) := by
        rw [← eq]
        clear eq lt pw nd pm l64 okL
        induction L' with
        | nil => exact .nil
        | cons q L' ih =>
          obtain ⟨x, y, _, _, _, e, dq⟩ := cd q List.mem_cons_self
          refine .cons (by rw [e]; exact Dat.ext x12 dq) (ih fun z hz => cd z (List.mem_cons_of_mem _ hz))
      exact (NewR.lst hr dd).done S2 (t1.trans t12) p1 w
/-- a set of ints, sorted -/
theorem srt_ints {F0 O0 F1 O1 : Fz} {H0 H1 : Hp} {ρ0 ρ1 : Env} {Q : VK} {ns : List Int} {res : R} (S1 : StI X.K F1 H1 O1 σ ρ1) (t1 : Stp F0 H0 O0 F1 H1 O1) (p1 : Pin ρ0 ρ1) (he : intsR ns = some res) (w : WantE X.K xr W σ F0 H0 O0 ρ0 (.ok res ρ1) Q) :
    ns.length < 64 ∧ ∀ (b : Addr) (S : Int → Bool) (c : Nat), (∀ j, S j = true ↔ j ∈ ns) → c ≤ ns.length → H1 b = none → rSrt X [V.ref b] (upd H1 b (SetO X.w b S c)) Q := by
  obtain ⟨h1, rfl⟩ := gd_some he
  simp only [decide_eq_true_eq] at h1
  refine ⟨h1, fun b S c hS hc hb => ?_⟩
  have S2 : StI X.K F1 (upd H1 b (SetO X.w b S c)) O1 σ ρ1 := S1.laid hb
  have t12 : Stp F1 H1 O1 F1 (upd H1 b (SetO X.w b S c)) O1 := stp_laid hb
  refine .inr ⟨b, S, c, rfl, upd_same, by omega, fun ms r pw hm hl2 hr => ?_⟩
  have em : ms = ssetI ns := sorted_eq pw (ssetI_lt _) fun z => by rw [hm, hS, ssetI_mem]
  subst em
  exact (NewR.lst hr (dats_ints _)).done S2 (t1.trans t12) p1 w
theorem pd_sset {k : Nat} (hr : Room k X.A) (hc : X.calm = true) {a : Expr} {x : Ex} {p p2 pos pos2 : Pos} (hg : Gl X "sorted") (hm : X.mg "sorted" = none) (hg2 : Gl X "set") (hm2 : X.mg "set" = none) (hs : noStar a = true) (ha : PD X xr W a (evE cx x)) :
    PD X xr W (.Call (.Name "sorted" p) [.Call (.Name "set" p2) [a] [] pos2] [] pos) (evE cx (.sset x)) := by
  obtain ⟨ta, pa, ka⟩ := ha.run
  have hu := hr.un
  refine ⟨_, pe_callB (cr_or (cr_sortedT hc) (cr_sortedSet hc)) hg hm (by decide +kernel) (pa_cons (pe_callTy (cr_or (cr_or (cr_setOfT hc (by omega)) (cr_setTT hc (by omega))) (cr_or (cr_setTI hc) (cr_setLI hc))) hg2 hm2 (by decide +kernel) (pa_cons pa pa_nil (star_one hs _ _)) (by decide) (by decide) (star_one hs _ _) rfl) pa_nil (star_one rfl _ _)) (by decide) (by decide) (star_one rfl _ _) rfl, fun F H O σ ρ Q S w => ?_⟩
  simp only [evE] at w
  refine ka F H O σ ρ _ S (WantG.seq .refl (.refl _) w fun ra ρ1 F1 H1 O1 va S1 _ t1 p1 r1 w => ?_)
  obtain ⟨res, he, w⟩ := w.lift
  simp only [Option.bind_eq_some_iff] at he
  obtain ⟨d, hd, he⟩ := he
  cases d with
  | list xs =>
    obtain ⟨l, vs, rfl, hl, dt⟩ := (cont_ok S1 r1 hd).lst
    simp only [ssetD, ssetL] at he
    split at he
    · rename_i ps hp
      obtain ⟨ks, rfl, k2, k3, k4⟩ := srt_pairs S1 t1 p1 dt hp he w
      exact .inl (.inl ⟨l, ks, rfl, SqL.of hl, k2, k3, k4⟩)
    · simp only [Option.bind_eq_some_iff] at he
      obtain ⟨ns, hn, he⟩ := he
      have ev := intsOf_V dt hn
      subst ev
      obtain ⟨k3, k4⟩ := srt_ints S1 t1 p1 he w
      exact .inr (.inr ⟨l, ns, rfl, SqL.of hl, k3, k4⟩)
  | tuple xs =>
    obtain ⟨l, vs, rfl, hl, dt⟩ := (cont_ok S1 r1 hd).tup
    simp only [ssetD, ssetL] at he
    split at he
    · rename_i ps hp
      obtain ⟨ks, rfl, k2, k3, k4⟩ := srt_pairs S1 t1 p1 dt hp he w
      exact .inl (.inr ⟨l, ks, rfl, hl, k2, k3, k4⟩)
    · simp only [Option.bind_eq_some_iff] at he
      obtain ⟨ns, hn, he⟩ := he
      have ev := intsOf_V dt hn
      subst ev
      obtain ⟨k3, k4⟩ := srt_ints S1 t1 p1 he w
      exact .inr (.inl ⟨l, ns, rfl, hl, k3, k4⟩)
  | _ => cases he
end
end MI
namespace MI
open PySem PySem.Spec PyProof.Rows L2
variable {K : PySem.W.Frag} {F F' : Fz} {H H' : Hp} {O O' : Fz} {σ σ' : L2.St} {ρ ρ' : Env} {xr : XRep} {W : WX}
/-! ### lots -/
abbrev noE : XK := fun _ _ _ => False
/-- what making a lot promises -/
def SpLot (K : PySem.W.Frag) (C : Addr) (fl : Str) : Sp := fun vs H Q _ => ∃ x dx u F d ys, vs = [.ref x, u] ∧ H x = some (.ins C dx []) ∧ (∀ a, F a → H a ≠ none) ∧ Dat K F H u d ∧ lotD d = some ys ∧
  ∀ v F' H', (∀ a, F a → F' a) → (∀ a, F' a → F a ∨ H a = none) → (∀ a, F' a → H' a ≠ none) → (∀ a, H a ≠ none → H' a = H a) → Dat K F' H' v (.tuple ys) → Q .non (upd H' x (.ins C dx [(fl, v)]))
def glS (sc : Scope) (n : Str) : Bool := sc.names.lookup n == some .globalImplicit
def parS (sc : Scope) (n : Str) : Bool := sc.names.lookup n == some .local
/-- self.fl = tuple(sorted(set(gates))) -/
def lotB (N : List Str) (sc : Scope) (fl : Str) (body : List Stmt) : Bool := decide (N = (["self", "gates"] : List Str)) && parS sc "self" && parS sc "gates" && glS sc "tuple" && glS sc "sorted" && glS sc "set" && (match body with
  | [.Assign [.Attribute (.Name s1 _) g _] (.Call (.Name t _) [.Call (.Name so _) [.Call (.Name se _) [.Name v _] [] _] [] _] [] _) _] => s1 == "self" && g == fl && t == "tuple" && so == "sorted" && se == "set" && v == "gates"
  | _ => false)
def xr0 : XRep := fun _ _ _ _ _ => False
def cx0 : Cxt := ⟨fun _ _ => .no, 0⟩
theorem lotE {d : D} {ys : List D} {x : Option M} (h : lotD d = some ys) : evE cx0 (.bi1 .tuple (.sset (.var 1))) [x, some (.sh d)] = .ok (.val (.tuple ys)) [x, some (.sh d)] := by
  unfold lotD at h
  split at h
  · rename_i ys' e
    cases h
    simp [evE, Env.get, Out.bind, R.cont, e, Out.lift, opB1, tupleD, seqOf]
  · cases h
theorem lot_init {P : Program} {w : World} {mg : Str → Option Value} {base : Heap} {k : Nat} {f C : Addr} {name qual fl : Str} {params : Arguments} {body : List Stmt} {scope : Scope} {N : List Str} {dvs : List V} {kws : List (Str × V)} {fd : FuncData}
    (Fn : FunD K name qual params body scope dvs kws f fd) (S : FnScope N ["self", "gates"] scope) (h : lotB N scope fl body = true) (cl : Cls K C) (na : NoAttr K C fl) (n1 : mg "tuple" = none) (n2 : mg "sorted" = none) (n3 : mg "set" = none) :
    FnOk P w K mg base (L2.CX P w) (k + 1) f fd ["self", "gates"] (SpLot K C fl) := by
  refine Fn.ok S (fun vs H Q E h => by obtain ⟨x, dx, u, F, d, ys, rfl, _⟩ := h; rfl) fun cdv A outer s H vs Q E hr hsp => ?_
  obtain ⟨x, dx, u, F, d, ys, rfl, hx, dom, hd, hl, hq⟩ := hsp
  unfold lotB at h
  simp only [Bool.and_eq_true, decide_eq_true_eq, glS, parS, beq_iff_eq] at h
  obtain ⟨⟨⟨⟨⟨⟨rfl, h1⟩, h2⟩, h3⟩, h4⟩, h5⟩, h6⟩ := h
  split at h6
  · rename_i s1 p1 g p2 t p3 so p4 se p5 v p6 p7 p8 p9 p10
    simp only [Bool.and_eq_true, beq_iff_eq] at h6
    obtain ⟨⟨⟨⟨⟨rfl, rfl⟩, rfl⟩, rfl⟩, rfl⟩, rfl⟩ := h6
    have pv0 : PD (cxOf (L2.CX P w) P w K mg base ["self", "gates"] qual scope f cdv A outer s H E) xr0 W0 (.Name "gates" p6) (evE cx0 (.var 1)) := pd_var rfl (.inl h2) (by decide) (by decide) cx0
    have g3 : Gl (cxOf (L2.CX P w) P w K mg base ["self", "gates"] qual scope f cdv A outer s H E) "tuple" := h3
    have g4 : Gl (cxOf (L2.CX P w) P w K mg base ["self", "gates"] qual scope f cdv A outer s H E) "sorted" := h4
    have g5 : Gl (cxOf (L2.CX P w) P w K mg base ["self", "gates"] qual scope f cdv A outer s H E) "set" := h5
    have pv := pd_ty1 (f := .tuple) (p := p3) (pos := p9) (n := "tuple") rfl g3 n1 (by decide +kernel) (by decide +kernel) (by decide) rfl (pd_sset (p := p4) (p2 := p5) (pos := p8) (pos2 := p7) hr rfl g4 n2 g5 n3 rfl pv0)
    obtain ⟨tv, pv, kv⟩ := pv.run
    refine ⟨_, pss_one (ps_fld (pe_var (i := 0) rfl (.inl h1)) pv rfl), ?_⟩
    refine kv F H (fun _ => False) _ [none, some (.sh d)] _ ⟨rfl, fun i m e => ?_, dom, fun a o => o.elim, fun i j a m m' ne e1 e2 o1 => ?_⟩ ?_
    · match i, e with
      | 1, e => cases e; exact ⟨u, rfl, hd⟩
    · match i, e1 with
      | 1, e1 => cases e1; cases o1
    · rw [lotE hl]
      intro F' H' O' v S' t p rr
      exact ⟨.ref x, rfl, x, C, dx, [], rfl, (t.hp x (by rw [hx]; simp) id).trans hx, cl, na, by decide, hq v F' H' t.fz (fun a f => by
        rcases t.fz' a f with h | h | h
        · exact .inl h
        · exact .inr h
        · exact h.elim) S'.dom (fun a n => t.hp a n id) rr⟩
  · cases h6
theorem passes0 {P : Program} {w : World} {X : Cx} : Passes (L2.CX P w) X noE := fun pins σ H s e s' I h => by
  obtain ⟨_, _, _, _, _, _, _, _, _, _, _, _, z⟩ := h
  exact z.elim
section
variable {X : Cx} {cx : Cxt} {k : Nat} {C f p g : Addr} {fd gd : FuncData} {cn fl fp : String}
theorem pd_lot {a : Expr} {x : Ex} {pn pos : Pos} (M : Mk X.K C f) (Fn : FnOk X.prog X.w X.K X.mg X.base (L2.CX X.prog X.w) k f fd ["self", "gates"] (SpLot X.K C (Str.ofString fl))) (hC : C = He.ga X.K (Str.ofString cn)) (hr : Room (k + 1) X.A) (hg : Gl X (Str.ofString cn)) (hm : X.mg (Str.ofString cn) = some (.ref C)) (hb : Binds X.K fd ["self", "gates"] [])
    (hdb : ((Str.ofString cn) == ("__debug__" : Str)) = false) (hs : noStar a = true) (ha : PD X xr W a (evE cx x)) : PD X xr W (.Call (.Name (Str.ofString cn) pn) [a] [] pos) (evE cx (.lot cn fl x)) := by
  obtain ⟨ta, pa, ka⟩ := ha.frz.run
  refine ⟨_, pe_make M Fn hr hg hm hb .nil (passes0 (P := X.prog) (w := X.w)) (pa_cons pa pa_nil (star_one hs _ _)) hdb (star_one hs _ _) rfl, fun F H O σ ρ Q S w => ?_⟩
  simp only [evE] at w
  refine ka F H O σ ρ _ S (WantG.seq .refl (.refl _) w fun d ρ1 F1 H1 O1 v S1 _ t1 p1 r1 w => ?_)
  obtain ⟨res, he, w⟩ := w.lift
  rw [Option.map_eq_some_iff] at he
  obtain ⟨ys, hl, rfl⟩ := he
  intro y dx hy hdx ne
  have ey : upd H1 dx (.own y) y = none := by rw [upd_ne (fun e => ne e.symm)]; exact hy
  have S2 : StI X.K F1 (upd (upd H1 dx (.own y)) y (.ins C dx [])) O1 σ ρ1 := (S1.laid hdx).laid ey
  have x12 : Ext F1 H1 F1 (upd (upd H1 dx (.own y)) y (.ins C dx [])) := S1.ext ((stp_laid (O := O1) hdx).trans (stp_laid ey))
  have h12 : ∀ a, H1 a ≠ none → upd (upd H1 dx (.own y)) y (.ins C dx []) a = H1 a := fun a n => by
    rw [upd_ne (fun e => n (by rw [e]; exact hy)), upd_ne (fun e => n (by rw [e]; exact hdx))]
  have h21 : ∀ a, upd (upd H1 dx (.own y)) y (.ins C dx []) a = none → H1 a = none := fun a n => by
    cases q : H1 a with
    | none => rfl
    | some o => rw [h12 a (by rw [q]; simp), q] at n; cases n
  refine ⟨y, dx, v, F1, d, ys, rfl, upd_same, S2.dom, Dat.ext x12 r1, hl, fun u F2 H2 f1 f2 f3 off hd => ⟨rfl, ?_⟩⟩
  have ny : upd (upd H1 dx (.own y)) y (.ins C dx []) y ≠ none := by rw [upd_same]; simp
  have noO : ¬ O1 y := fun o => (S1.odom y o).1 hy
  have noF1 : ¬ F1 y := fun o => S1.dom y o hy
  have noF2 : ¬ F2 y := fun o => by
    rcases f2 y o with h | h
    · exact noF1 h
    · exact ny h
  have S4 := (S2.grow off).more F2 fun a fa => ⟨f3 a fa, fun o => by
    rcases f2 a fa with h | h
    · exact (S2.odom a o).2 h
    · exact (S2.odom a o).1 h⟩
  have S5 := S4.side (a := y) (o := .ins C dx [(Str.ofString fl, u)]) (fun h => h.elim noF1 noF2) noO
  have S6 := S5.more (fun a => a = y) fun a e => ⟨by rw [e, upd_same]; simp, by rw [e]; exact noO⟩
  have h23 : ∀ a, H1 a ≠ none → upd H2 y (.ins C dx [(Str.ofString fl, u)]) a = H1 a := fun a n => by
    rw [upd_ne (fun e => n (by rw [e]; exact hy)), off a (by rw [h12 a n]; exact n), h12 a n]
  refine w _ _ O1 (.ref y) S6 (t1.trans ⟨fun a h => .inl (.inl h), fun a h => ?_, fun a h => .inl h, fun a n _ => h23 a n, fun a n => by rw [h23 a n]; exact n⟩) p1 ?_
  · rcases h with (h | h) | h
    · exact .inl h
    · rcases f2 a h with h | h
      · exact .inl h
      · exact .inr (.inl (h21 a h))
    · exact .inr (.inl (by rw [h]; exact hy))
  · refine ⟨y, dx, [(Str.ofString fl, u)], rfl, .inr rfl, by rw [upd_same, hC], rfl, .one ?_⟩
    exact Dat.ext (fun a fa => ⟨.inl (.inr fa), upd_ne fun e => noF2 (by rw [← e]; exact fa)⟩) hd
theorem dats_lookup {f : Str} {d : D} : ∀ {fvs : List (Str × V)} {fs : List (Str × D)}, fvs.map (·.1) = fs.map (·.1) → Dats K F H (fvs.map (·.2)) (fs.map (·.2)) → fs.lookup f = some d → ∃ v, fvs.lookup f = some v ∧ Dat K F H v d
  | [], [], _, _, h => by cases h
  | [], _ :: _, e, _, _ => by cases e
  | _ :: _, [], e, _, _ => by cases e
  | (n, v) :: fvs, (m, x) :: fs, e, hd, h => by
    simp only [List.map_cons, List.cons.injEq] at e hd
    obtain ⟨e1, e2⟩ := e
    have e1 : n = m := e1
    subst e1
    cases hd with
    | cons a b =>
      rw [List.lookup_cons] at h ⊢
      cases q : f == n with
      | true => rw [q] at h; cases h; exact ⟨v, rfl, a⟩
      | false => rw [q] at h; exact dats_lookup e2 b h
def noSup : Expr → Bool
  | .Call _ [] [] _ => false
  | _ => true
theorem noSup_ok {e : Expr} {f : Str} {env : PySem.Env} {w : Sem Value} (h : noSup e = true) : attributeBase e f env w = w := by
  unfold noSup at h
  split at h
  · cases h
  · rename_i h2
    unfold attributeBase
    split
    · rename_i id p pos
      exact absurd rfl (h2 _ _)
    · rfl
theorem pd_prop {a : Expr} {x : Ex} {pos : Pos} (c : Cls X.K C) (hp : PropOf X.K C (Str.ofString fp) p g) (Fn : FnOk X.prog X.w X.K X.mg X.base (L2.CX X.prog X.w) k g gd ["self"] (getSp C (Str.ofString fl))) (hC : C = He.ga X.K (Str.ofString cn)) (hr : Room (k + 1) X.A) (hb : Binds X.K gd ["self"] []) (hs : noSup a = true) (ha : PD X xr W a (evE cx x)) :
    PD X xr W (.Attribute a (Str.ofString fp) pos) (evE cx (.prop cn fl x)) := by
  obtain ⟨ta, pa, ka⟩ := ha.run
  refine ⟨_, pe_prop (E := noE) pa c hp Fn hr hb .nil (passes0 (P := X.prog) (w := X.w)) (noSup_ok hs), fun F H O σ ρ Q S w => ?_⟩
  simp only [evE] at w
  refine ka F H O σ ρ _ S (WantG.seq .refl (.refl _) w fun r ρ1 F1 H1 O1 v S1 _ t1 p1 r1 w => ?_)
  obtain ⟨res, he, w⟩ := w.lift
  cases r with
  | ob C' fs =>
    simp only [propR] at he
    split at he
    · rename_i e
      subst e
      rw [Option.map_eq_some_iff] at he
      obtain ⟨d, hl, rfl⟩ := he
      obtain ⟨b, dx, fvs, rfl, hf, hb, hn, hd⟩ := r1
      obtain ⟨u, g1, g2⟩ := dats_lookup hn hd hl
      rw [hC]
      exact ⟨b, dx, fvs, rfl, hb, b, dx, fvs, u, rfl, hb, g1, w F1 H1 O1 u S1 t1 p1 g2⟩
    · cases he
  | _ => cases he
end
/-- a class of lots: its name, its attribute, its property -/
structure LotG where
  cn : String
  fl : String
  fp : String
/-- what is known of it within a def -/
structure LotFn (X : Cx) (k : Nat) (q : LotG) : Prop where
  ex : ∃ (C f p g : Addr) (fd gd : FuncData), C = He.ga X.K (Str.ofString q.cn) ∧ X.mg (Str.ofString q.cn) = some (.ref C) ∧ Mk X.K C f ∧ FnOk X.prog X.w X.K X.mg X.base (L2.CX X.prog X.w) k f fd ["self", "gates"] (SpLot X.K C (Str.ofString q.fl)) ∧ Binds X.K fd ["self", "gates"] [] ∧
    Cls X.K C ∧ PropOf X.K C (Str.ofString q.fp) p g ∧ FnOk X.prog X.w X.K X.mg X.base (L2.CX X.prog X.w) k g gd ["self"] (getSp C (Str.ofString q.fl)) ∧ Binds X.K gd ["self"] []
/-- .. at the head -/
structure LotHd (K : PySem.W.Frag) (mg : Str → Option Value) (q : LotG) : Prop where
  ex : ∃ (C f p g : Addr) (fd gd : FuncData), C = He.ga K (Str.ofString q.cn) ∧ mg (Str.ofString q.cn) = some (.ref C) ∧ Mk K C f ∧ Binds K fd ["self", "gates"] [] ∧ Cls K C ∧ PropOf K C (Str.ofString q.fp) p g ∧ Binds K gd ["self"] [] ∧
    ∀ (P : Program) (w : World) (base : Heap) (k : Nat), FnOk P w K mg base (L2.CX P w) (k + 1) f fd ["self", "gates"] (SpLot K C (Str.ofString q.fl)) ∧ FnOk P w K mg base (L2.CX P w) (k + 1) g gd ["self"] (getSp C (Str.ofString q.fl))
end MI
namespace MI
open PySem PySem.Spec PyProof.Rows L2
/-! ### == and != by an own __eq__ (no own __ne__) -/
section
variable {prog : Program} {w : World} {A : Around} {E : Value → Shared → Prop} {s : Shared} {K : PySem.W.Frag} {x y C f : Addr} {ox : Obj} {od : Option Obj}
theorem ne_entry (X : K.In s.heap) (I : PySem.W.InstAt s.heap x ox C od) (hs : PySem.W.findIn K (.ref C) "__eq__" = some (some (.ref f))) (hf : PySem.W.isFn K (.ref f) = true) (hu : A.units < cLine) {Q : Fin → Shared → Prop}
    (h : wpAny (model prog w) A (call (.ref f) [.ref x, .ref y]) (fun v s' => ∃ b, v = .bool b ∧ Q (.done (.ret (.bool (!b)))) s') E s) : wpAny (model prog w) A (Builtin.«object.__ne__» ⟨[.ref x, .ref y], []⟩) Q E s := by
  unfold Builtin.«object.__ne__»
  obtain ⟨hp, g, d, t, os⟩ := s
  repeat (first
    | with_reducible refine wpAny_cRoomFor hu ?_
    | (refine wpAny_bind (m := callSpecialIfBound? (.ref x) (Str.ofString "__eq__") [.ref y])
        (PySem.W.ifBound_K X I hs hf (wpAny_mono h (fun v s' hr => by
          obtain ⟨b, rfl, hq⟩ := hr
          repeat (first | exact hq | exact wpAny_pure hq | exact wpAny_truthy_bool hq | (refine wpAny_bind (m := truthy (.bool _)) (wpAny_truthy_bool ?_)) | wp_step)) fun _ _ e => e)))
    | wp_step)
theorem ifBound_ne {args : List Value} {Q : Option Value → Shared → Prop} (X : K.In s.heap) (I : PySem.W.InstAt s.heap x ox C od) (hs : PySem.W.findIn K (.ref C) "__ne__" = some (some (.builtin "object.__ne__")))
    (h : wpAny (model prog w) A (call (.builtin "object.__ne__") (.ref x :: args)) (fun v => Q (some v)) E s) : wpAny (model prog w) A (callSpecialIfBound? (.ref x) "__ne__" args) Q E s := by
  have fin : wpAny (model prog w) A (call (.builtin "object.__ne__") ([.ref x] ++ args) >>= fun v => pure (some v)) Q E s := wpAny_bind (wpAny_mono h (fun v s' q => wpAny_pure q) fun _ _ q => q)
  simp only [callSpecialIfBound?, bindSpecialIfBound?]
  refine wpAny_holding (wpAny_bind (wpAny_bind (wpAny_bind (I.type.here ((PySem.W.looks_findIn X hs).here (wpAny_bind (wpAny_askSetting (wpAny_ite ?_))))))))
  split
  · exact wpAny_bind (wpAny_of_eq (F.cmp_object.ne.bind _) (wpAny_pure (by exact fin)))
  · exact wpAny_tryCatch (wpAny_bind (wpAny_of_eq (F.cmp_object.ne.bind _) (wpAny_pure (by exact fin))))
theorem call_objNe (X : K.In s.heap) (I : PySem.W.InstAt s.heap x ox C od) (hm : PySem.W.mroIn K C (.type "object") = some true) (hs : PySem.W.findIn K (.ref C) "__eq__" = some (some (.ref f))) (hf : PySem.W.isFn K (.ref f) = true) (hu : A.units + 1 < cLine) {Q : Value → Shared → Prop}
    (h : wpAny (model prog w) A.in1 (call (.ref f) [.ref x, .ref y]) (fun v s' => ∃ b, v = .bool b ∧ Q (.bool (!b)) s') E s) : wpAny (model prog w) A (call (.builtin "object.__ne__") [.ref x, .ref y]) Q E s := by
  refine wpAny_call (codeAny_call_builtin F.cmp_object.ne.plain F.cmpEntry_ne (PySem.W.check_slot F.cmpKind_ne F.cmpSplit_ne (I.type.andThen (PySem.W.looks_mroIn X hm)) (F.cmpArgs_ne _ _) (ne_entry (A := A.in1) X I hs hf hu (wpAny_mono h (fun v s' q => ?_) fun _ _ e => e))))
  obtain ⟨b, rfl, q⟩ := q
  first | exact ⟨b, rfl, wpAny_pure q⟩ | exact ⟨b, rfl, wpAny_pure (wpAny_pure q)⟩ | exact ⟨b, rfl, q⟩
theorem rich_ne {oy : Obj} {oe : Option Obj} (X : K.In s.heap) (I : PySem.W.InstAt s.heap x ox C od) (J : PySem.W.InstAt s.heap y oy C oe) (hm : PySem.W.mroIn K C (.type "object") = some true) (hs : PySem.W.findIn K (.ref C) "__eq__" = some (some (.ref f))) (hf : PySem.W.isFn K (.ref f) = true)
    (hn : PySem.W.findIn K (.ref C) "__ne__" = some (some (.builtin "object.__ne__"))) (hu : A.units + 1 < cLine) {Q : Value → Shared → Prop}
    (h : wpAny (model prog w) A.in1 (call (.ref f) [.ref x, .ref y]) (fun v s' => ∃ b, v = .bool b ∧ Q (.bool (!b)) s') E s) : wpAny (model prog w) A (richCompare .NotEq (.ref x) (.ref y)) Q E s := by
  have one : wpAny (model prog w) A (tryCompare (.ref x) "__ne__" (.ref y)) (fun r s' => ∃ v, r = some v ∧ Q v s') E s := by
    unfold tryCompare
    refine wpAny_bind (ifBound_ne X I hn (call_objNe X I hm hs hf hu (wpAny_mono h (fun v s' q => ?_) fun _ _ e => e)))
    obtain ⟨b, rfl, q⟩ := q
    exact ⟨b, rfl, wpAny_pure ⟨_, rfl, q⟩⟩
  unfold richCompare
  simp only [oneThing_ref]
  refine wpAny_holding (wpAny_bind (wpAny_cRoomFor (Nat.lt_of_succ_lt hu) ?_))
  rw [cmpInfo_NotEq]
  dsimp only
  refine wpAny_bind (I.type.here (wpAny_bind (J.type.here ?_)))
  rw [show (Value.ref C != Value.ref C) = false from by simp]
  simp only [Bool.false_eq_true, if_false]
  refine wpAny_bind (wpAny_pure ?_)
  simp only [Bool.false_eq_true, if_false]
  refine wpAny_bind (wpAny_mono one (fun r s' z => ?_) fun _ _ e => e)
  obtain ⟨v, rfl, q⟩ := z
  exact wpAny_pure q
end
/-- what an own == promises -/
def spB (R : Addr → Addr → Hp → Bool → Prop) : Sp := fun vs H Q _ => ∃ a b t, vs = [.ref a, .ref b] ∧ R a b H t ∧ ∀ H', (∀ c, H c ≠ none → H' c = H c) → Q (.bl t) H'
/-- two objects of a class with an own ==; neg: != -/
def rOwn (C : Addr) (R : Addr → Addr → Hp → Bool → Prop) (neg : Bool) : R2 := fun x y H Q => ∃ a b dx dy fs gs t, x = .ref a ∧ y = .ref b ∧ H a = some (.ins C dx fs) ∧ H b = some (.ins C dy gs) ∧ R a b H t ∧ ∀ H', (∀ c, H c ≠ none → H' c = H c) → Q (.bl (t != neg)) H'
section
variable {X : Cx} {CX : CXT} {n : Nat} {C f : Addr} {fd : FuncData} {ps : List Str} {R : Addr → Addr → Hp → Bool → Prop} {E : XK} {pins : List (Addr × Obj)} {σ : L2.St} {H : Hp} {s : Shared}
theorem call_eqB (Fn : FnOk X.prog X.w X.K X.mg X.base CX n f fd ps (spB R)) (hb : Binds X.K fd ps []) (hx : Passes CX X E) {A : Around} (sb : Sub X n A) (I : Inv X pins σ H s) {a b : Addr} {t : Bool} (hr : R a b H t) :
    wpAny (model X.prog X.w) A (call (.ref f) [.ref a, .ref b]) (fun v s' => v = .bool t ∧ ∃ H', Inv X pins σ H' s' ∧ ∀ c, H c ≠ none → H' c = H c) X.xe s := by
  have hsp : spB R [.ref a, .ref b] H (fun v H' => v = .bl t ∧ ∀ c, H c ≠ none → H' c = H c) E := ⟨a, b, t, rfl, hr, fun H' k => ⟨rfl, k⟩⟩
  have e0 : Env0 X.prog X.w X.K X.mg X.base A X.stack s H := by
    have e := I.env0
    exact ⟨sb.fr.trans e.frames, e.mod, e.bs, e.bsz, e.funs, e.frf, e.hok, e.bare⟩
  have hl := Fn.len _ _ _ _ hsp
  refine wpAny_call (codeAny_mono (Fn.run A X.stack s H ⟨[.ref a, .ref b], []⟩ [.ref a, .ref b] [.ref a, .ref b] _ E sb.room e0 (by simpa using hb s [.ref a, .ref b] I.kIn (by simpa using hl)) (.cons rfl (.cons rfl .nil)) hsp) fun r s' hq => ?_)
  match r, hq with
  | .error e, hq => exact hx pins σ H s e s' I hq
  | .ok (.ret w), hq =>
    obtain ⟨z, H', I', rz, ez, k⟩ := I.after hq
    subst ez
    cases rz
    exact ⟨rfl, H', I', k⟩
theorem op_own (Fn : FnOk X.prog X.w X.K X.mg X.base CX n f fd ps (spB R)) (hb : Binds X.K fd ps []) (hx : Passes CX X E) (hr : Room n X.A) (hs : PySem.W.findIn X.K (.ref C) "__eq__" = some (some (.ref f))) (hf : PySem.W.isFn X.K (.ref f) = true) : OpR X (compareOp .Eq) (rOwn C R false) := by
  intro pins s σ H x y v u Q I rx ry hq
  obtain ⟨a, b, dx, dy, fs, gs, t, rfl, rfl, ha, hb', hR, q⟩ := hq
  cases rx
  cases ry
  obtain ⟨mA, J, _⟩ := ins_get I.hok ha
  obtain ⟨mB, J', _⟩ := ins_get I.hok hb'
  obtain ⟨od, J, _⟩ := J.look
  obtain ⟨od', J', _⟩ := J'.look
  obtain ⟨m, hF⟩ := I.fr
  show wpAny (model X.prog X.w) X.A (richCompare .Eq (.ref a) (.ref b)) (EP X pins σ Q) X.xe s
  refine PySem.W.cmp_K (op := .Eq) (tb := .ref C) hr.units0 hF I.ok.mod.kin J J'.type (by simp [PySem.W.notFirst]) hs hf (wpAny_mono (call_eqB Fn hb hx ⟨hr, rfl⟩ I hR) (fun v s' z => ?_) fun _ _ e => e)
  obtain ⟨rfl, H', I', k⟩ := z
  exact ⟨.bl t, H', I', rfl, by simpa using q H' k⟩
theorem op_ownNe (Fn : FnOk X.prog X.w X.K X.mg X.base CX n f fd ps (spB R)) (hb : Binds X.K fd ps []) (hx : Passes CX X E) (hr : Room (n + 1) X.A) (hs : PySem.W.findIn X.K (.ref C) "__eq__" = some (some (.ref f))) (hf : PySem.W.isFn X.K (.ref f) = true)
    (hn : PySem.W.findIn X.K (.ref C) "__ne__" = some (some (.builtin "object.__ne__"))) (hm : PySem.W.mroIn X.K C (.type "object") = some true) : OpR X (compareOp .NotEq) (rOwn C R true) := by
  intro pins s σ H x y v u Q I rx ry hq
  obtain ⟨a, b, dx, dy, fs, gs, t, rfl, rfl, ha, hb', hR, q⟩ := hq
  cases rx
  cases ry
  obtain ⟨mA, J, _⟩ := ins_get I.hok ha
  obtain ⟨mB, J', _⟩ := ins_get I.hok hb'
  obtain ⟨od, J, _⟩ := J.look
  obtain ⟨od', J', _⟩ := J'.look
  show wpAny (model X.prog X.w) X.A (richCompare .NotEq (.ref a) (.ref b)) (EP X pins σ Q) X.xe s
  refine rich_ne I.kIn J J' hm hs hf hn (by have := hr.in1.units0; exact this) (wpAny_mono (call_eqB Fn hb hx (A := X.A.in1) ⟨hr.in1, rfl⟩ I hR) (fun v s' z => ?_) fun _ _ e => e)
  obtain ⟨rfl, H', I', k⟩ := z
  exact ⟨t, rfl, .bl (!t), H', I', rfl, by simpa using q H' k⟩
end
end MI
namespace MI
open PySem PySem.Spec PyProof.Rows L2
variable {K : PySem.W.Frag} {F F' : Fz} {H H' : Hp} {O O' : Fz} {σ σ' : L2.St} {ρ ρ' : Env} {xr : XRep} {W : WX}
/-- a plain class of the text -/
structure OwnC (K : PySem.W.Frag) (C : Addr) : Prop where
  cl : Cls K C
  ha : PySem.W.findIn K (.ref C) "__class__" = some (some (.builtin "object.__class__"))
  hn : PySem.W.specialIn K (.builtin "object.__class__") "__get__" = some (some (.builtin "getset_descriptor.__get__"))
  ht : PySem.W.takesIn K (.builtin "object.__class__") = some true
  hm : PySem.W.mroIn K C (.type "object") = some true
section
variable {X : Cx} {cx : Cxt} {k : Nat} {C : Addr} {cn fl : String}
theorem pd_isaC {a : Expr} {x : Ex} {p p2 pos : Pos} (oc : OwnC X.K C) (hC : C = He.ga X.K (Str.ofString cn)) (hg : Gl X "isinstance") (hm : X.mg "isinstance" = none) (hgC : Gl X (Str.ofString cn)) (hmC : X.mg (Str.ofString cn) = some (.ref C)) (hdb : ((Str.ofString cn) == ("__debug__" : Str)) = false)
    (hs : noStar a = true) (ha : PD X xr W a (evE cx x)) : PD X xr W (.Call (.Name "isinstance" p) [a, .Name (Str.ofString cn) p2] [] pos) (evE cx (.isaC cn x)) := by
  obtain ⟨ta, pa, ka⟩ := ha.run
  refine ⟨_, pe_callB call_isi hg hm isi_boot (pa_cons pa (pa_cons (pe_glob hgC hmC (v := .ref C) rfl hdb) pa_nil (star_one rfl _ _)) (star_one hs _ _)) (by decide +kernel) (by decide +kernel) (star_one hs _ _) (star_no rfl _ _), fun F H O σ ρ Q S w => ?_⟩
  simp only [evE] at w
  refine ka F H O σ ρ _ S (WantG.seq .refl (.refl _) w fun r ρ1 F1 H1 O1 v S1 _ t1 p1 r1 w => ?_)
  obtain ⟨res, he, w⟩ := w.lift
  cases r with
  | ob C' fs =>
    simp only [isaR] at he
    split at he
    · rename_i e
      subst e
      cases he
      obtain ⟨b, dx, fvs, rfl, hf, hb, hn, hd⟩ := r1
      rw [← hC] at hb
      exact ⟨.ref b, .ref C, .ref C, .ref C, true, rfl, .own C, .base (.ins hb oc.cl oc.ha oc.hn oc.ht oc.hm), by unfold PySem.W.kitOne; rw [if_pos (by simp)], w F1 H1 O1 _ S1 t1 p1 (.bl true)⟩
    · cases he
  | _ => cases he
theorem pd_fld {a : Expr} {x : Ex} {pos : Pos} (cl : Cls X.K C) (na : NoAttr X.K C (Str.ofString fl)) (hC : C = He.ga X.K (Str.ofString cn)) (hs : noSup a = true) (ha : PD X xr W a (evE cx x)) : PD X xr W (.Attribute a (Str.ofString fl) pos) (evE cx (.fld cn fl x)) := by
  obtain ⟨ta, pa, ka⟩ := ha.run
  refine ⟨_, pe_fld pa (noSup_ok hs), fun F H O σ ρ Q S w => ?_⟩
  simp only [evE] at w
  refine ka F H O σ ρ _ S (WantG.seq .refl (.refl _) w fun r ρ1 F1 H1 O1 v S1 _ t1 p1 r1 w => ?_)
  obtain ⟨res, he, w⟩ := w.lift
  cases r with
  | ob C' fs =>
    simp only [propR] at he
    split at he
    · rename_i e
      subst e
      rw [Option.map_eq_some_iff] at he
      obtain ⟨d, hl, rfl⟩ := he
      obtain ⟨b, dx, fvs, rfl, hf, hb, hn, hd⟩ := r1
      obtain ⟨u, g1, g2⟩ := dats_lookup hn hd hl
      rw [← hC] at hb
      exact ⟨b, C, dx, fvs, u, rfl, hb, cl, na, g1, w F1 H1 O1 u S1 t1 p1 g2⟩
    · cases he
  | _ => cases he
end
/-- two lots: their attributes -/
def RLot (K : PySem.W.Frag) (cn fl : String) : Addr → Addr → Hp → Bool → Prop := fun a b H t => ∃ F fs gs da db, (∀ c, F c → H c ≠ none) ∧ RepOb K F H (.ref a) (Str.ofString cn) fs ∧ RepOb K F H (.ref b) (Str.ofString cn) gs ∧ fs.lookup (Str.ofString fl) = some da ∧ gs.lookup (Str.ofString fl) = some db ∧ opCmp .eq da db = some t
/-- return isinstance(other, cn) and self.fl == other.fl -/
def eqB (N : List Str) (sc : Scope) (cn fl : Str) (body : List Stmt) : Bool := decide (N = (["self", "other"] : List Str)) && parS sc "self" && parS sc "other" && glS sc "isinstance" && glS sc cn && !(cn == ("__debug__" : Str)) && (match body with
  | [.Return (some (.BoolOp .And [.Call (.Name i _) [.Name v _, .Name c _] [] _, .Compare (.Attribute (.Name s1 _) f1 _) [.Eq] [.Attribute (.Name s2 _) f2 _] _] _)) _] => i == "isinstance" && v == "other" && c == cn && s1 == "self" && s2 == "other" && f1 == fl && f2 == fl
  | _ => false)
theorem eqE {cn fl : String} {da db : D} {fs gs : List (Str × D)} {t : Bool} (h1 : fs.lookup (Str.ofString fl) = some da) (h2 : gs.lookup (Str.ofString fl) = some db) (h : opCmp .eq da db = some t) : evE cx0 (.and (.isaC cn (.var 1)) (.cmp .eq (.fld cn fl (.var 0)) (.fld cn fl (.var 1)))) [some (.ob (Str.ofString cn) fs), some (.ob (Str.ofString cn) gs)] = .ok (.val (.bool t)) [some (.ob (Str.ofString cn) fs), some (.ob (Str.ofString cn) gs)] := by
  simp [evE, Env.get, Out.bind, isaR, propR, Out.lift, R.cont, h, h1, h2]
theorem lot_eq {P : Program} {w : World} {mg : Str → Option Value} {base : Heap} {k : Nat} {f C : Addr} {name qual : Str} {cn fl : String} {params : Arguments} {body : List Stmt} {scope : Scope} {N : List Str} {dvs : List V} {kws : List (Str × V)} {fd : FuncData}
    (Fn : FunD K name qual params body scope dvs kws f fd) (S : FnScope N ["self", "other"] scope) (h : eqB N scope (Str.ofString cn) (Str.ofString fl) body = true) (oc : OwnC K C) (na : NoAttr K C (Str.ofString fl)) (hC : C = He.ga K (Str.ofString cn)) (hmC : mg (Str.ofString cn) = some (.ref C)) (n1 : mg "isinstance" = none) :
    FnOk P w K mg base (L2.CX P w) (k + 1) f fd ["self", "other"] (spB (RLot K cn fl)) := by
  refine Fn.ok S (fun vs H Q E h => by obtain ⟨a, b, t, rfl, _⟩ := h; rfl) fun cdv A outer s H vs Q E hr hsp => ?_
  obtain ⟨a, b, t, rfl, ⟨F, fs, gs, da, db, dom, ra, rb, l1, l2, he⟩, hq⟩ := hsp
  unfold eqB at h
  simp only [Bool.and_eq_true, decide_eq_true_eq, glS, parS, beq_iff_eq, Bool.not_eq_true'] at h
  obtain ⟨⟨⟨⟨⟨⟨rfl, h1⟩, h2⟩, h3⟩, h4⟩, h5⟩, h6⟩ := h
  split at h6
  · rename_i i p1 v p2 c p3 p4 s1 p5 f1 p6 s2 p7 f2 p8 p9 p10 p11
    simp only [Bool.and_eq_true, beq_iff_eq] at h6
    obtain ⟨⟨⟨⟨⟨⟨rfl, rfl⟩, rfl⟩, rfl⟩, rfl⟩, rfl⟩, rfl⟩ := h6
    have pS : PD (cxOf (L2.CX P w) P w K mg base ["self", "other"] qual scope f cdv A outer s H E) xr0 W0 (.Name "self" p5) (evE cx0 (.var 0)) := pd_var rfl (.inl h1) (by decide) (by decide) cx0
    have pO : PD (cxOf (L2.CX P w) P w K mg base ["self", "other"] qual scope f cdv A outer s H E) xr0 W0 (.Name "other" p7) (evE cx0 (.var 1)) := pd_var rfl (.inl h2) (by decide) (by decide) cx0
    have pO2 : PD (cxOf (L2.CX P w) P w K mg base ["self", "other"] qual scope f cdv A outer s H E) xr0 W0 (.Name "other" p2) (evE cx0 (.var 1)) := pd_var rfl (.inl h2) (by decide) (by decide) cx0
    have g3 : Gl (cxOf (L2.CX P w) P w K mg base ["self", "other"] qual scope f cdv A outer s H E) "isinstance" := h3
    have g4 : Gl (cxOf (L2.CX P w) P w K mg base ["self", "other"] qual scope f cdv A outer s H E) (Str.ofString cn) := h4
    have pv := pd_and (pos := p10) (pd_isaC (p := p1) (p2 := p3) (pos := p4) oc hC g3 n1 g4 hmC h5 rfl pO2) (pd_one (o := .And) (pos := p10) (pd_cmp (o := .eq) (p := .Eq) (pos := p9) (cx := cx0) hr rfl rfl (pd_fld (pos := p6) oc.cl na hC rfl pS) (pd_fld (pos := p8) oc.cl na hC rfl pO)))
    obtain ⟨tv, pv, kv⟩ := pv.run
    refine ⟨_, pss_one (ps_ret pv), ?_⟩
    refine kv F H (fun _ => False) _ [some (.ob (Str.ofString cn) fs), some (.ob (Str.ofString cn) gs)] _ ⟨rfl, fun i m e => ?_, dom, fun a o => o.elim, fun i j a m m' ne e1 e2 o1 => ?_⟩ ?_
    · match i, e with
      | 0, e => cases e; exact ⟨_, rfl, ra⟩
      | 1, e => cases e; exact ⟨_, rfl, rb⟩
    · match i, e1 with
      | 0, e1 => cases e1; cases o1
      | 1, e1 => cases e1; cases o1
    · rw [eqE l1 l2 he]
      intro F' H' O' v S' t' p rr
      cases rr
      exact hq H' fun c n => t'.hp c n id
  · cases h6
/-- a == b, a != b -/
theorem pd_eqO {X : Cx} {cx : Cxt} {C : Addr} {cn fl : String} {neg : Bool} {op : CmpOp} {a b : Expr} {x y : Ex} {pos : Pos} (hop : OpR X (compareOp op) (rOwn C (RLot X.K cn fl) neg)) (hC : C = He.ga X.K (Str.ofString cn)) (hm : behindInMarks op b = false) (ha : PD X xr W a (evE cx x)) (hb : PD X xr W b (evE cx y)) : PD X xr W (.Compare a [op] [b] pos) (evE cx (.eqO neg cn fl x y)) := by
  obtain ⟨ta, pa, ka⟩ := ha.run
  obtain ⟨tb, pb, kb⟩ := hb.run
  refine ⟨_, pe_cmpR hop pa pb hm, fun F H O σ ρ Q S w => ?_⟩
  simp only [evE] at w
  refine ka F H O σ ρ _ S (WantG.seq .refl (.refl _) w fun r1 ρ1 F1 H1 O1 v1 S1 _ t1 p1 q1 w => ?_)
  refine kb F1 H1 O1 σ ρ1 _ S1 (WantG.seq t1 p1 w fun r2 ρ2 F2 H2 O2 v2 S2 t12 t2 p2 q2 w => ?_)
  obtain ⟨res, he, w⟩ := w.lift
  cases r1 with
  | ob C1 fs1 =>
    cases r2 with
    | ob C2 fs2 =>
      simp only [eqR] at he
      split at he
      · rename_i e
        obtain ⟨rfl, rfl⟩ := e
        simp only [Option.bind_eq_some_iff, Option.map_eq_some_iff] at he
        obtain ⟨d1, l1, d2, l2, t, hc, rfl⟩ := he
        have q1' := RepOb.ext (S1.ext t12) (show RepOb X.K F1 H1 v1 (Str.ofString cn) fs1 from q1)
        have q2' : RepOb X.K F2 H2 v2 (Str.ofString cn) fs2 := q2
        obtain ⟨a1, dx, fvs, e1, hf1, hb1, _⟩ := id q1'
        obtain ⟨a2, dy, gvs, e2, hf2, hb2, _⟩ := id q2'
        rw [← hC] at hb1 hb2
        subst e1 e2
        refine ⟨a1, a2, dx, dy, fvs, gvs, t, rfl, rfl, hb1, hb2, ⟨F2, fs1, fs2, d1, d2, S2.dom, q1', q2', l1, l2, hc⟩, fun H' kp => ?_⟩
        exact w F2 H' O2 _ (S2.grow kp) (t2.trans ⟨fun _ h => h, fun _ h => .inl h, fun _ h => .inl h, fun c n _ => kp c n, fun c n => by rw [kp c n]; exact n⟩) p2 (.bl _)
      · cases he
    | _ => cases he
  | _ => cases he
theorem eqR_ob {neg : Bool} {C f : Str} {r1 r2 res : R} (h : eqR neg C f r1 r2 = some res) : ∃ fs1 fs2 d1 d2 t, r1 = .ob C fs1 ∧ r2 = .ob C fs2 ∧ fs1.lookup f = some d1 ∧ fs2.lookup f = some d2 ∧ opCmp .eq d1 d2 = some t ∧ res = .val (.bool (t != neg)) := by
  cases r1 with
  | ob C1 fs1 =>
    cases r2 with
    | ob C2 fs2 =>
      simp only [eqR] at h
      split at h
      · rename_i e
        obtain ⟨rfl, rfl⟩ := e
        simp only [Option.bind_eq_some_iff, Option.map_eq_some_iff] at h
        obtain ⟨d1, l1, d2, l2, t, hc, rfl⟩ := h
        exact ⟨fs1, fs2, d1, d2, t, rfl, rfl, l1, l2, hc, rfl⟩
      · cases h
    | _ => cases h
  | _ => cases h
def eqRB (neg : Bool) (C f : Str) (a b : R) : Option Bool := (eqR neg C f a b).bind fun r => match r with
  | .val (.bool c) => some c
  | _ => none
theorem pdt_eqO {X : Cx} {cx : Cxt} {C : Addr} {cn fl : String} {neg : Bool} {op : CmpOp} {a b : Expr} {x y : Ex} {pos : Pos} (hop : OpR X (compareOp op) (rOwn C (RLot X.K cn fl) neg)) (hC : C = He.ga X.K (Str.ofString cn)) (hm : behindInMarks op b = false) (ha : PD X xr W a (evE cx x)) (hb : PD X xr W b (evE cx y)) :
    PDt X xr W (.Compare a [op] [b] pos) (fun ρ => (evE cx (.eqO neg cn fl x y) ρ).bind truthR) := by
  obtain ⟨ta, pa, ka⟩ := ha.run
  obtain ⟨tb, pb, kb⟩ := hb.run
  refine ⟨_, pt_cmpR hop pa pb hm, fun F H O σ ρ Q S w => ?_⟩
  have w' : WantB X.K xr W σ F H O ρ ((evE cx x ρ).bind fun ra ρ => (evE cx y ρ).bind fun rb ρ => (Out.lift (eqRB neg (Str.ofString cn) (Str.ofString fl) ra rb) ρ)) Q := by
    simp only [evE] at w
    cases e1 : evE cx x ρ with
    | ok ra ρ1 =>
      simp only [e1, Out.bind] at w ⊢
      cases e2 : evE cx y ρ1 with
      | ok rb ρ2 =>
        simp only [e2, Out.bind] at w ⊢
        unfold eqRB
        cases e3 : eqR neg (Str.ofString cn) (Str.ofString fl) ra rb with
        | none => rw [e3] at w; exact w
        | some res =>
          rw [e3] at w
          obtain ⟨fs1, fs2, d1, d2, t, rfl, rfl, l1, l2, hc, rfl⟩ := eqR_ob e3
          exact w
      | ex z ρ2 => simp only [e2, Out.bind] at w ⊢; exact w
      | no => simp only [e2, Out.bind] at w ⊢; exact w
    | ex z ρ1 => simp only [e1, Out.bind] at w ⊢; exact w
    | no => simp only [e1, Out.bind] at w ⊢; exact w
  refine ka F H O σ ρ _ S (WantG.seq .refl (.refl _) w' fun r1 ρ1 F1 H1 O1 v1 S1 _ t1 p1 q1 w => ?_)
  refine kb F1 H1 O1 σ ρ1 _ S1 (WantG.seq t1 p1 w fun r2 ρ2 F2 H2 O2 v2 S2 t12 t2 p2 q2 w => ?_)
  obtain ⟨c, he, w⟩ := w.lift
  unfold eqRB at he
  cases e3 : eqR neg (Str.ofString cn) (Str.ofString fl) r1 r2 with
  | none => rw [e3] at he; cases he
  | some res =>
    rw [e3] at he
    obtain ⟨fs1, fs2, d1, d2, t, rfl, rfl, l1, l2, hc, rfl⟩ := eqR_ob e3
    cases he
    have q1' := RepOb.ext (S1.ext t12) (show RepOb X.K F1 H1 v1 (Str.ofString cn) fs1 from q1)
    have q2' : RepOb X.K F2 H2 v2 (Str.ofString cn) fs2 := q2
    obtain ⟨a1, dx, fvs, e1, hf1, hb1, _⟩ := id q1'
    obtain ⟨a2, dy, gvs, e2, hf2, hb2, _⟩ := id q2'
    rw [← hC] at hb1 hb2
    subst e1 e2
    refine ⟨a1, a2, dx, dy, fvs, gvs, t, rfl, rfl, hb1, hb2, ⟨F2, fs1, fs2, d1, d2, S2.dom, q1', q2', l1, l2, hc⟩, fun H' kp => ⟨_, rfl, ?_⟩⟩
    exact w F2 H' O2 _ (S2.grow kp) (t2.trans ⟨fun _ h => h, fun _ h => .inl h, fun _ h => .inl h, fun c n _ => kp c n, fun c n => by rw [kp c n]; exact n⟩) p2 rfl
/-- a class of lots with an own == -/
structure LotM (X : Cx) (k : Nat) (q : LotG) : Prop where
  ex : ∃ (C f : Addr) (fd : FuncData), C = He.ga X.K (Str.ofString q.cn) ∧ X.mg (Str.ofString q.cn) = some (.ref C) ∧ OwnC X.K C ∧ FnOk X.prog X.w X.K X.mg X.base (L2.CX X.prog X.w) k f fd ["self", "other"] (spB (RLot X.K q.cn q.fl)) ∧ Binds X.K fd ["self", "other"] [] ∧
    PySem.W.findIn X.K (.ref C) "__eq__" = some (some (.ref f)) ∧ PySem.W.isFn X.K (.ref f) = true ∧ PySem.W.findIn X.K (.ref C) "__ne__" = some (some (.builtin "object.__ne__"))
structure LotN (K : PySem.W.Frag) (mg : Str → Option Value) (q : LotG) : Prop where
  ex : ∃ (C f : Addr) (fd : FuncData), C = He.ga K (Str.ofString q.cn) ∧ mg (Str.ofString q.cn) = some (.ref C) ∧ OwnC K C ∧ Binds K fd ["self", "other"] [] ∧
    PySem.W.findIn K (.ref C) "__eq__" = some (some (.ref f)) ∧ PySem.W.isFn K (.ref f) = true ∧ PySem.W.findIn K (.ref C) "__ne__" = some (some (.builtin "object.__ne__")) ∧
    ∀ (P : Program) (w : World) (base : Heap) (k : Nat), FnOk P w K mg base (L2.CX P w) (k + 1) f fd ["self", "other"] (spB (RLot K q.cn q.fl))
theorem own_op {X : Cx} {cx : Cxt} {k : Nat} {q : LotG} {neg : Bool} {o : CmpOp} (h : LotM X (k + 1) q) (hr : Room (k + 2) X.A) (ho : o = if neg then .NotEq else .Eq) : OpR X (compareOp o) (rOwn (He.ga X.K (Str.ofString q.cn)) (RLot X.K q.cn q.fl) neg) := by
  obtain ⟨C, f, fd, rfl, _, oc, Fn, hb, he, hf, hn⟩ := h.ex
  subst ho
  cases neg with
  | true => exact op_ownNe Fn hb (passes0 (P := X.prog) (w := X.w)) hr he hf hn oc.hm
  | false => exact op_own Fn hb (passes0 (P := X.prog) (w := X.w)) (hr.mono (by omega)) he hf
/-- .. its call without arguments: the default is a written empty tuple -/
structure LotZ (X : Cx) (k : Nat) (q : LotG) : Prop where
  ex : ∃ (C f T : Addr) (fd : FuncData), C = He.ga X.K (Str.ofString q.cn) ∧ X.mg (Str.ofString q.cn) = some (.ref C) ∧ Mk X.K C f ∧ FnOk X.prog X.w X.K X.mg X.base (L2.CX X.prog X.w) k f fd ["self", "gates"] (SpLot X.K C (Str.ofString q.fl)) ∧ Binds X.K fd ["self", "gates"] [.ref T] ∧ KTup X.K T []
structure LotZN (K : PySem.W.Frag) (mg : Str → Option Value) (q : LotG) : Prop where
  ex : ∃ (C f T : Addr) (fd : FuncData), C = He.ga K (Str.ofString q.cn) ∧ mg (Str.ofString q.cn) = some (.ref C) ∧ Mk K C f ∧ Binds K fd ["self", "gates"] [.ref T] ∧ KTup K T [] ∧
    ∀ (P : Program) (w : World) (base : Heap) (k : Nat), FnOk P w K mg base (L2.CX P w) (k + 1) f fd ["self", "gates"] (SpLot K C (Str.ofString q.fl))
theorem lot0E (cx : Cxt) (cn fl : String) (ρ : Env) : evE cx (.lot cn fl (.tup [])) ρ = .ok (.ob (Str.ofString cn) [(Str.ofString fl, .tuple [])]) ρ := by
  simp only [evE, evDs, Out.bind, frz]
  rfl
theorem pd_lot0 {X : Cx} {cx : Cxt} {k : Nat} {C f T : Addr} {fd : FuncData} {cn fl : String} {pn pos : Pos} (M : Mk X.K C f) (Fn : FnOk X.prog X.w X.K X.mg X.base (L2.CX X.prog X.w) k f fd ["self", "gates"] (SpLot X.K C (Str.ofString fl))) (hC : C = He.ga X.K (Str.ofString cn)) (hr : Room (k + 1) X.A) (hg : Gl X (Str.ofString cn)) (hm : X.mg (Str.ofString cn) = some (.ref C))
    (hb : Binds X.K fd ["self", "gates"] [.ref T]) (hT : KTup X.K T []) (hdb : ((Str.ofString cn) == ("__debug__" : Str)) = false) : PD X xr W (.Call (.Name (Str.ofString cn) pn) [] [] pos) (evE cx (.lot cn fl (.tup []))) := by
  refine ⟨_, pe_make0 (dvs := [.ref T]) M Fn hr hg hm hb (.cons rfl .nil) (passes0 (P := X.prog) (w := X.w)) hdb, fun F H O σ ρ Q S w => ?_⟩
  rw [lot0E] at w
  intro y dx hy hdx ne
  have ey : upd H dx (.own y) y = none := by rw [upd_ne (fun e => ne e.symm)]; exact hy
  have S2 : StI X.K F (upd (upd H dx (.own y)) y (.ins C dx [])) O σ ρ := (S.laid hdx).laid ey
  have h12 : ∀ a, H a ≠ none → upd (upd H dx (.own y)) y (.ins C dx []) a = H a := fun a n => by
    rw [upd_ne (fun e => n (by rw [e]; exact hy)), upd_ne (fun e => n (by rw [e]; exact hdx))]
  have h21 : ∀ a, upd (upd H dx (.own y)) y (.ins C dx []) a = none → H a = none := fun a n => by
    cases q : H a with
    | none => rfl
    | some o => rw [h12 a (by rw [q]; simp), q] at n; cases n
  refine ⟨y, dx, .ref T, F, .tuple [], [], rfl, upd_same, S2.dom, .ktup hT .nil, rfl, fun u F2 H2 f1 f2 f3 off hd => ⟨rfl, ?_⟩⟩
  have ny : upd (upd H dx (.own y)) y (.ins C dx []) y ≠ none := by rw [upd_same]; simp
  have noO : ¬ O y := fun o => (S.odom y o).1 hy
  have noF1 : ¬ F y := fun o => S.dom y o hy
  have noF2 : ¬ F2 y := fun o => by
    rcases f2 y o with h | h
    · exact noF1 h
    · exact ny h
  have S4 := (S2.grow off).more F2 fun a fa => ⟨f3 a fa, fun o => by
    rcases f2 a fa with h | h
    · exact (S2.odom a o).2 h
    · exact (S2.odom a o).1 h⟩
  have S5 := S4.side (a := y) (o := .ins C dx [(Str.ofString fl, u)]) (fun h => h.elim noF1 noF2) noO
  have S6 := S5.more (fun a => a = y) fun a e => ⟨by rw [e, upd_same]; simp, by rw [e]; exact noO⟩
  have h23 : ∀ a, H a ≠ none → upd H2 y (.ins C dx [(Str.ofString fl, u)]) a = H a := fun a n => by
    rw [upd_ne (fun e => n (by rw [e]; exact hy)), off a (by rw [h12 a n]; exact n), h12 a n]
  refine w _ _ O (.ref y) S6 ⟨fun a h => .inl (.inl h), fun a h => ?_, fun a h => .inl h, fun a n _ => h23 a n, fun a n => by rw [h23 a n]; exact n⟩ (.refl _) ?_
  · rcases h with (h | h) | h
    · exact .inl h
    · rcases f2 a h with h | h
      · exact .inl h
      · exact .inr (.inl (h21 a h))
    · exact .inr (.inl (by rw [h]; exact hy))
  · refine ⟨y, dx, [(Str.ofString fl, u)], rfl, .inr rfl, by rw [upd_same, hC], rfl, .one ?_⟩
    exact Dat.ext (fun a fa => ⟨.inl (.inr fa), upd_ne fun e => noF2 (by rw [← e]; exact fa)⟩) hd
end MI
namespace MI
open PySem PySem.Spec PyProof.Rows L2
variable {K : PySem.W.Frag} {F F' : Fz} {H H' : Hp} {O O' : Fz} {σ σ' : L2.St} {ρ ρ' : Env} {xr : XRep} {W : WX}
/-! ### len of an own class, by its __len__ -/
def spN (R : Addr → Hp → Nat → Prop) : Sp := fun vs H Q _ => ∃ a n, vs = [.ref a] ∧ R a H n ∧ n ≤ Lim ∧ ∀ H', (∀ c, H c ≠ none → H' c = H c) → Q (.int n) H'
def rLenO (C : Addr) (R : Addr → Hp → Nat → Prop) : List V → Hp → VK → Prop := fun xs H Q => ∃ a dx fs n, xs = [.ref a] ∧ H a = some (.ins C dx fs) ∧ R a H n ∧ n ≤ Lim ∧ ∀ H', (∀ c, H c ≠ none → H' c = H c) → Q (.int n) H'
section
variable {X : Cx} {CX : CXT} {n : Nat} {C f : Addr} {fd : FuncData} {ps : List Str} {R : Addr → Hp → Nat → Prop} {E : XK} {pins : List (Addr × Obj)} {σ : L2.St} {H : Hp} {s : Shared}
theorem call_lenB (Fn : FnOk X.prog X.w X.K X.mg X.base CX n f fd ps (spN R)) (hb : Binds X.K fd ps []) (hx : Passes CX X E) {A : Around} (sb : Sub X n A) (I : Inv X pins σ H s) {a : Addr} {t : Nat} (hr : R a H t) (hl : t ≤ Lim) :
    wpAny (model X.prog X.w) A (call (.ref f) [.ref a]) (fun v s' => (∃ tk, v = .int t tk) ∧ ∃ H', Inv X pins σ H' s' ∧ ∀ c, H c ≠ none → H' c = H c) X.xe s := by
  have hsp : spN R [.ref a] H (fun v H' => v = .int t ∧ ∀ c, H c ≠ none → H' c = H c) E := ⟨a, t, rfl, hr, hl, fun H' k => ⟨rfl, k⟩⟩
  have e0 : Env0 X.prog X.w X.K X.mg X.base A X.stack s H := by
    have e := I.env0
    exact ⟨sb.fr.trans e.frames, e.mod, e.bs, e.bsz, e.funs, e.frf, e.hok, e.bare⟩
  have hl := Fn.len _ _ _ _ hsp
  refine wpAny_call (codeAny_mono (Fn.run A X.stack s H ⟨[.ref a], []⟩ [.ref a] [.ref a] _ E sb.room e0 (by simpa using hb s [.ref a] I.kIn (by simpa using hl)) (.cons rfl .nil) hsp) fun r s' hq => ?_)
  match r, hq with
  | .error e, hq => exact hx pins σ H s e s' I hq
  | .ok (.ret w), hq =>
    obtain ⟨z, H', I', rz, ez, k⟩ := I.after hq
    subst ez
    exact ⟨rz, H', I', k⟩
theorem cr_lenO (Fn : FnOk X.prog X.w X.K X.mg X.base CX n f fd ps (spN R)) (hb : Binds X.K fd ps []) (hx : Passes CX X E) (hr : Room (n + 1) X.A) (hs : PySem.W.findIn X.K (.ref C) "__len__" = some (some (.ref f))) (hf : PySem.W.isFn X.K (.ref f) = true) : CallR X (.builtin "len") (rLenO C R) := by
  intro pins s σ H vs us Q I r h
  obtain ⟨a, dx, fs, n, rfl, ha, hR, hn, hq⟩ := h
  rw [Vals.ref1 r]
  obtain ⟨mA, J, _⟩ := ins_get I.hok ha
  obtain ⟨od, J, _⟩ := J.look
  obtain ⟨m, hF⟩ := I.fr
  refine PySem.W.len_K hF I.ok.mod.kin J hs hf (wpAny_mono (call_lenB Fn hb hx (A := X.A.in1) ⟨hr.in1, rfl⟩ I hR hn) (fun v s' z => ?_) fun _ _ e => e)
  obtain ⟨⟨tk, rfl⟩, H', I', k⟩ := z
  have hn : n ≤ 16777216 := hn
  exact ⟨⟨by omega, by omega⟩, .int n, H', I'.tok _, ⟨_, rfl⟩, hq H' k⟩
end
/-- a lot: how many -/
def NLot (K : PySem.W.Frag) (cn fl : String) : Addr → Hp → Nat → Prop := fun a H n => ∃ F fs xs, (∀ c, F c → H c ≠ none) ∧ RepOb K F H (.ref a) (Str.ofString cn) fs ∧ fs.lookup (Str.ofString fl) = some (.tuple xs) ∧ n = xs.length
/-- return len(self.fl) -/
def lenB (N : List Str) (sc : Scope) (fl : Str) (body : List Stmt) : Bool := decide (N = (["self"] : List Str)) && parS sc "self" && glS sc "len" && (match body with
  | [.Return (some (.Call (.Name i _) [.Attribute (.Name s1 _) f1 _] [] _)) _] => i == "len" && s1 == "self" && f1 == fl
  | _ => false)
theorem lenE {cn fl : String} {fs : List (Str × D)} {xs : List D} (h1 : fs.lookup (Str.ofString fl) = some (.tuple xs)) : evE cx0 (.bi1 .len (.fld cn fl (.var 0))) [some (.ob (Str.ofString cn) fs)] = .ok (.val (.int xs.length)) [some (.ob (Str.ofString cn) fs)] := by
  simp [evE, Env.get, Out.bind, propR, Out.lift, R.cont, h1, opB1, lenD]
theorem lot_len {P : Program} {w : World} {mg : Str → Option Value} {base : Heap} {k : Nat} {f C : Addr} {name qual : Str} {cn fl : String} {params : Arguments} {body : List Stmt} {scope : Scope} {N : List Str} {dvs : List V} {kws : List (Str × V)} {fd : FuncData}
    (Fn : FunD K name qual params body scope dvs kws f fd) (S : FnScope N ["self"] scope) (h : lenB N scope (Str.ofString fl) body = true) (cl : Cls K C) (na : NoAttr K C (Str.ofString fl)) (hC : C = He.ga K (Str.ofString cn)) (n1 : mg "len" = none) :
    FnOk P w K mg base (L2.CX P w) (k + 1) f fd ["self"] (spN (NLot K cn fl)) := by
  refine Fn.ok S (fun vs H Q E h => by obtain ⟨a, t, rfl, _⟩ := h; rfl) fun cdv A outer s H vs Q E hr hsp => ?_
  obtain ⟨a, t, rfl, ⟨F, fs, xs, dom, ra, l1, rfl⟩, hl, hq⟩ := hsp
  unfold lenB at h
  simp only [Bool.and_eq_true, decide_eq_true_eq, glS, parS, beq_iff_eq] at h
  obtain ⟨⟨⟨rfl, h1⟩, h3⟩, h6⟩ := h
  split at h6
  · rename_i i p1 s1 p2 f1 p3 p4 p5
    simp only [Bool.and_eq_true, beq_iff_eq] at h6
    obtain ⟨⟨rfl, rfl⟩, rfl⟩ := h6
    have pS : PD (cxOf (L2.CX P w) P w K mg base ["self"] qual scope f cdv A outer s H E) xr0 W0 (.Name "self" p2) (evE cx0 (.var 0)) := pd_var rfl (.inl h1) (by decide) (by decide) cx0
    have g3 : Gl (cxOf (L2.CX P w) P w K mg base ["self"] qual scope f cdv A outer s H E) "len" := h3
    have pv := pd_b1 (f := .len) (cx := cx0) (fun ta pa => pe_callB (pos := p4) (p := p1) len_ok g3 n1 (by decide +kernel) pa (by decide +kernel) (by decide +kernel) (star_one rfl _ _) rfl) rfl (pd_fld (pos := p3) cl na hC rfl pS)
    obtain ⟨tv, pv, kv⟩ := pv.run
    refine ⟨_, pss_one (ps_ret pv), ?_⟩
    refine kv F H (fun _ => False) _ [some (.ob (Str.ofString cn) fs)] _ ⟨rfl, fun i m e => ?_, dom, fun a o => o.elim, fun i j a m m' ne e1 e2 o1 => ?_⟩ ?_
    · match i, e with
      | 0, e => cases e; exact ⟨_, rfl, ra⟩
    · match i, e1 with
      | 0, e1 => cases e1; cases o1
    · rw [lenE l1]
      intro F' H' O' v S' t' p rr
      cases rr
      exact hq H' fun c n => t'.hp c n id
  · cases h6
theorem pd_lenO {X : Cx} {cx : Cxt} {C : Addr} {cn fl : String} {a : Expr} {x : Ex} {p pos : Pos} (hop : CallR X (.builtin "len") (rLenO C (NLot X.K cn fl))) (hC : C = He.ga X.K (Str.ofString cn)) (hg : Gl X "len") (hm : X.mg "len" = none) (hs : noStar a = true) (ha : PD X xr W a (evE cx x)) : PD X xr W (.Call (.Name "len" p) [a] [] pos) (evE cx (.lenO cn fl x)) := by
  obtain ⟨ta, pa, ka⟩ := ha.run
  refine ⟨_, pe_callB hop hg hm (by decide +kernel) (pa_cons pa pa_nil (star_one hs _ _)) (by decide +kernel) (by decide +kernel) (star_one hs _ _) rfl, fun F H O σ ρ Q S w => ?_⟩
  simp only [evE] at w
  refine ka F H O σ ρ _ S (WantG.seq .refl (.refl _) w fun r ρ1 F1 H1 O1 v S1 _ t1 p1 r1 w => ?_)
  obtain ⟨res, he, w⟩ := w.lift
  cases r with
  | ob C' fs =>
    simp only [lenR] at he
    split at he
    · rename_i e
      subst e
      split at he
      · rename_i xs hl
        obtain ⟨hn, rfl⟩ := gd_some he
        have hn : xs.length ≤ Lim := of_decide_eq_true hn
        have r1' : RepOb X.K F1 H1 v (Str.ofString cn) fs := r1
        obtain ⟨b, dx, fvs, rfl, hf, hb, _⟩ := id r1'
        rw [← hC] at hb
        refine ⟨b, dx, fvs, xs.length, rfl, hb, ⟨F1, fs, xs, S1.dom, r1', hl, rfl⟩, hn, fun H' kp => ?_⟩
        exact w F1 H' O1 _ (S1.grow kp) (t1.trans ⟨fun _ h => h, fun _ h => .inl h, fun _ h => .inl h, fun c n _ => kp c n, fun c n => by rw [kp c n]; exact n⟩) p1 (.int _)
      · cases he
    · cases he
  | _ => cases he
/-- a class of lots with an own __len__ -/
structure LotL (X : Cx) (k : Nat) (q : LotG) : Prop where
  ex : ∃ (C f : Addr) (fd : FuncData), C = He.ga X.K (Str.ofString q.cn) ∧ FnOk X.prog X.w X.K X.mg X.base (L2.CX X.prog X.w) k f fd ["self"] (spN (NLot X.K q.cn q.fl)) ∧ Binds X.K fd ["self"] [] ∧
    PySem.W.findIn X.K (.ref C) "__len__" = some (some (.ref f)) ∧ PySem.W.isFn X.K (.ref f) = true
structure LotLN (K : PySem.W.Frag) (mg : Str → Option Value) (q : LotG) : Prop where
  ex : ∃ (C f : Addr) (fd : FuncData), C = He.ga K (Str.ofString q.cn) ∧ Binds K fd ["self"] [] ∧
    PySem.W.findIn K (.ref C) "__len__" = some (some (.ref f)) ∧ PySem.W.isFn K (.ref f) = true ∧
    ∀ (P : Program) (w : World) (base : Heap) (k : Nat), FnOk P w K mg base (L2.CX P w) (k + 1) f fd ["self"] (spN (NLot K q.cn q.fl))
theorem own_len {X : Cx} {k : Nat} {q : LotG} (h : LotL X (k + 1) q) (hr : Room (k + 2) X.A) : CallR X (.builtin "len") (rLenO (He.ga X.K (Str.ofString q.cn)) (NLot X.K q.cn q.fl)) := by
  obtain ⟨C, f, fd, rfl, Fn, hb, he, hf⟩ := h.ex
  exact cr_lenO Fn hb (passes0 (P := X.prog) (w := X.w)) hr he hf
end MI
namespace MI
open PySem PySem.Spec PyProof.Rows L2
variable {K : PySem.W.Frag} {F F' : Fz} {H H' : Hp} {O O' : Fz} {σ σ' : L2.St} {ρ ρ' : Env} {xr : XRep} {W : WX}
section
variable {X : Cx} {cx : Cxt}
/-! ### f-strings -/
theorem pd_fmt {a : Expr} {x : Ex} {pos : Pos} (ha : PD X xr W a (evE cx x)) : PD X xr W (.FormattedValue a (-1) none pos) (evE cx (.fmt x)) := by
  obtain ⟨ta, pa, ka⟩ := ha.run
  refine ⟨_, pe_fmt pa, fun F H O σ ρ Q S w => ?_⟩
  simp only [evE] at w
  refine ka F H O σ ρ _ S (WantG.seq .refl (.refl _) w fun ra ρ1 F1 H1 O1 va S1 _ t1 p1 r1 w => ?_)
  obtain ⟨res, he, w⟩ := w.lift
  simp only [Option.bind_eq_some_iff] at he
  obtain ⟨d, hd, he⟩ := he
  have dt := cont_ok S1 r1 hd
  cases d with
  | str y =>
    obtain ⟨h3, rfl⟩ := gd_some he
    cases dt with
    | sh dt =>
      cases dt
      exact .inl ⟨y, rfl, by simpa [lim_eq] using h3, (NewR.same (.str _)).done S1 t1 p1 w⟩
  | int i =>
    obtain ⟨h3, rfl⟩ := gd_some he
    cases dt with
    | sh dt =>
      cases dt
      exact .inr ⟨i, rfl, by simpa using h3, (NewR.same (.str _)).done S1 t1 p1 w⟩
  | _ => cases he
structure PDj (X : Cx) (xr : XRep) (W : WX) (cx : Cxt) (es : List Expr) (xs : List Ex) : Prop where
  run : ∃ ts, PJ X es ts ∧ ∀ F0 H0 O0 ρ0 F H O σ ρ acc Q, StI X.K F H O σ ρ → Stp F0 H0 O0 F H O → Pin ρ0 ρ → WantE X.K xr W σ F0 H0 O0 ρ0 (evJs cx xs acc ρ) Q → tJs ts acc σ H (fun out H1 => Q (.str out) H1)
theorem pdj_nil : PDj X xr W cx [] [] := ⟨_, .nil, fun F0 H0 O0 ρ0 F H O σ ρ acc Q S t p w => by
  simp only [evJs] at w
  exact (NewR.same (.str _)).done S t p w⟩
theorem pdj_cons {e : Expr} {es : List Expr} {x : Ex} {xs : List Ex} (ha : PD X xr W e (evE cx x)) (hb : PDj X xr W cx es xs) : PDj X xr W cx (e :: es) (x :: xs) := by
  obtain ⟨ta, pa, ka⟩ := ha.frz.run
  obtain ⟨tb, pb, kb⟩ := hb.run
  refine ⟨_, .cons pa pb, fun F0 H0 O0 ρ0 F H O σ ρ acc Q S t p w => ?_⟩
  simp only [evJs] at w
  refine ka F H O σ ρ _ S (WantG.seq t p w fun d ρ1 F1 H1 O1 v S1 _ t1 p1 r1 w => ?_)
  cases d with
  | str y =>
    dsimp only at w
    split at w
    · rename_i hl
      cases r1
      exact ⟨y, rfl, by simpa [lim_eq] using hl, kb F0 H0 O0 ρ0 F1 H1 O1 σ ρ1 _ Q S1 t1 p1 w⟩
    · exact w.elim
  | _ => exact w.elim
theorem pd_fstr {e1 e2 : Expr} {es : List Expr} {xs : List Ex} {pos : Pos} (h : PDj X xr W cx (e1 :: e2 :: es) xs) : PD X xr W (.JoinedStr (e1 :: e2 :: es) pos) (evE cx (.fstr xs)) := by
  obtain ⟨ts, pt, kt⟩ := h.run
  refine ⟨_, pe_joined pt, fun F H O σ ρ Q S w => ?_⟩
  simp only [evE] at w
  exact kt F H O ρ F H O σ ρ _ Q S .refl (.refl _) w
/-! ### rstrip -/
theorem pd_rstr {a : Expr} {x : Ex} {apos cpos : Pos} (hs : noSup a = true) (hl : (apos.endLine == cpos.line) = true) (ha : PD X xr W a (evE cx x)) : PD X xr W (.Call (.Attribute a "rstrip" apos) [] [] cpos) (evE cx (.rstr x)) := by
  obtain ⟨ta, pa, ka⟩ := ha.run
  refine ⟨_, pe_m0 F.slot_str_rstrip F.type_str_rstrip mt_rstrip pa (noSup_ok hs) hl, fun F H O σ ρ Q S w => ?_⟩
  simp only [evE] at w
  refine ka F H O σ ρ _ S (WantG.seq .refl (.refl _) w fun ra ρ1 F1 H1 O1 va S1 _ t1 p1 r1 w => ?_)
  obtain ⟨res, he, w⟩ := w.lift
  simp only [Option.bind_eq_some_iff] at he
  obtain ⟨d, hd, he⟩ := he
  have dt := cont_ok S1 r1 hd
  cases d with
  | str y =>
    obtain ⟨h3, rfl⟩ := gd_some he
    cases dt with
    | sh dt =>
      cases dt
      exact ⟨⟨_, rfl⟩, y, rfl, rfl, by simpa [lim_eq] using h3, (NewR.same (.str _)).done S1 t1 p1 w⟩
  | _ => cases he
/-! ### [es, .., *e] -/
def evDst (cx : Cxt) : List Ex → Ex → MI.Env → Out (List D)
  | [], e, ρ => ((evE cx e ρ).bind MI.frz).bind fun d ρ => Out.lift (seqOf d) ρ
  | a :: es, e, ρ => ((evE cx a ρ).bind MI.frz).bind fun d ρ => (evDst cx es e ρ).bind fun ds ρ => .ok (d :: ds) ρ
theorem evDst_eq (cx : Cxt) (e : Ex) : ∀ (es : List Ex) (ρ : MI.Env), evDst cx es e ρ = (evDs cx es ρ).bind fun ds ρ => (((evE cx e ρ).bind MI.frz).bind fun d ρ => (Out.lift (seqOf d) ρ).bind fun ys ρ => .ok (ds ++ ys) ρ)
  | [], ρ => by
    simp only [evDst, evDs]
    show _ = (((evE cx e ρ).bind MI.frz).bind _)
    generalize (evE cx e ρ).bind MI.frz = o
    cases o with
    | ex z ρ1 => rfl
    | no => rfl
    | ok d ρ1 =>
      show Out.lift (seqOf d) ρ1 = (Out.lift (seqOf d) ρ1).bind _
      cases seqOf d <;> rfl
  | a :: es, ρ => by
    simp only [evDst, evDs]
    generalize (evE cx a ρ).bind MI.frz = o
    cases o with
    | ex z ρ1 => rfl
    | no => rfl
    | ok d ρ1 =>
      show (evDst cx es e ρ1).bind _ = ((evDs cx es ρ1).bind _).bind _
      rw [evDst_eq cx e es ρ1]
      generalize evDs cx es ρ1 = o2
      cases o2 with
      | ex z ρ2 => rfl
      | no => rfl
      | ok ds ρ2 =>
        show (((evE cx e ρ2).bind MI.frz).bind _).bind _ = ((evE cx e ρ2).bind MI.frz).bind _
        generalize (evE cx e ρ2).bind MI.frz = o3
        cases o3 with
        | ex z ρ3 => rfl
        | no => rfl
        | ok d ρ3 =>
          show ((Out.lift (seqOf d) ρ3).bind _).bind _ = (Out.lift (seqOf d) ρ3).bind _
          cases seqOf d <;> rfl
theorem pds_star1 {e : Expr} {x : Ex} {p : Pos} (h : PD X xr W e (evE cx x)) : PDs X xr W [.Starred e p] (evDst cx [] x) := by
  obtain ⟨te, pe, ke⟩ := h.frz.run
  refine ⟨_, StX.pa_star pe pa_nil, fun F H O σ ρ Q S w => ?_⟩
  simp only [evDst] at w
  refine ke F H O σ ρ _ S (WantG.seq .refl (.refl _) w fun d ρ1 F1 H1 O1 v S1 _ t1 p1 r1 w => ?_)
  obtain ⟨ys, he, w1⟩ := w.lift
  cases d with
  | list ds =>
    cases he
    obtain ⟨a, vs, rfl, ha, hd⟩ := Dat1.lst (.sh r1)
    exact ⟨a, vs, rfl, .inr (SqL.of ha), w1 F1 H1 O1 _ S1 t1 p1 (by rw [List.append_nil]; exact hd)⟩
  | tuple ds =>
    cases he
    obtain ⟨a, vs, rfl, ha, hd⟩ := Dat1.tup (.sh r1)
    exact ⟨a, vs, rfl, .inl ha, w1 F1 H1 O1 _ S1 t1 p1 (by rw [List.append_nil]; exact hd)⟩
  | _ => cases he
theorem pds_starC {e : Expr} {es : List Expr} {x y : Ex} {xs : List Ex} (hs : noStar e = true) (ha : PD X xr W e (evE cx x)) (hb : PDs X xr W es (evDst cx xs y)) : PDs X xr W (e :: es) (evDst cx (x :: xs) y) := by
  obtain ⟨ta, pa, ka⟩ := ha.frz.run
  obtain ⟨tb, pb, kb⟩ := hb.run
  refine ⟨_, pa_cons pa pb (star_one hs _ _), fun F H O σ ρ Q S w => ?_⟩
  simp only [evDst] at w
  refine ka F H O σ ρ _ S (WantG.seq .refl (.refl _) w fun d ρ1 F1 H1 O1 v S1 _ t1 p1 r1 w => ?_)
  refine kb F1 H1 O1 σ ρ1 _ S1 (WantG.seq t1 p1 w fun ds ρ2 F2 H2 O2 vs S2 t12 t2 p2 r2 w => ?_)
  exact w F2 H2 O2 _ S2 t2 p2 (.cons (Dat.ext (S1.ext t12) r1) r2)
theorem pd_lstS {es : List Expr} {xs : List Ex} {x : Ex} {pos : Pos} (h : PDs X xr W es (evDst cx xs x)) : PD X xr W (.List es pos) (evE cx (.lstS xs x)) := by
  obtain ⟨t, p, kk⟩ := h.run
  refine ⟨_, pe_lst p, fun F H O σ ρ Q S w => ?_⟩
  have e : evE cx (.lstS xs x) ρ = (evDst cx xs x ρ).bind fun ds ρ => if ds.length ≤ Lim then .ok (.new ds) ρ else .no := by
    rw [evDst_eq, bindA]
    simp only [evE]
    refine congrArg _ (funext fun ds => funext fun ρ1 => ?_)
    rw [bindA (evE cx x ρ1 |>.bind MI.frz)]
    refine congrArg _ (funext fun d => funext fun ρ2 => ?_)
    rw [bindA]
    rfl
  rw [e] at w
  refine kk F H O σ ρ _ S (WantG.seq .refl (.refl _) w fun ds ρ1 F1 H1 O1 vs S1 _ t1 p1 r1 w => ?_)
  split at w
  · rename_i hl
    exact ⟨by rw [r1.length]; simpa [lim_eq] using hl, fun p hp => (NewR.lst hp r1).done S1 t1 p1 w⟩
  · exact w.elim
end
end MI
namespace MI
open PySem PySem.Spec PyProof.Rows L2 RZ
/-! ### zip over lists and tuples alike: true says tuple -/
def ItS : Bool → Heap → Addr → Addr → Nat → Prop
  | true, hp, i, l, k => hp.IsTupleIter i l k
  | false, hp, i, l, k => hp.IsListIter i l k
def SqS : Bool → Heap → Addr → Array Value → Prop
  | true, hp, l, xs => hp.IsTuple l xs
  | false, hp, l, xs => hp.IsList l xs
theorem ItS.ext {t : Bool} {hp hq : Heap} {i l b : Addr} {k : Nat} (x : ItS t hp i l k) (e : Heap.ExtBut b hp hq) (n : i ≠ b) : ItS t hq i l k := by
  cases t
  · exact Heap.IsListIter.extBut x e n
  · exact Heap.IsTupleIter.extBut x e n
theorem SqS.ext {t : Bool} {hp hq : Heap} {l b : Addr} {xs : Array Value} (x : SqS t hp l xs) (e : Heap.ExtBut b hp hq) (n : l ≠ b) : SqS t hq l xs := by
  cases t
  · exact Heap.IsList.extBut x e n
  · exact Heap.IsTuple.extBut x e n
theorem ItS.obj {t : Bool} {hp : Heap} {i l : Addr} {k : Nat} (x : ItS t hp i l k) : ∃ o, hp.get? i = some o ∧ ∀ v, o.data ≠ .cell v := by
  cases t
  · obtain ⟨o, e, _, d⟩ := x; exact ⟨o, e, fun v q => by rw [d] at q; cases q⟩
  · obtain ⟨o, e, _, d⟩ := x; exact ⟨o, e, fun v q => by rw [d] at q; cases q⟩
theorem ItS.at {t : Bool} {hp hq : Heap} {i l : Addr} {k : Nat} (x : ItS t hp i l k) (e : ∀ o, hp.get? i = some o → hq.get? i = some o) : ItS t hq i l k := by
  cases t
  · exact Heap.IsListIter.at x e
  · exact Heap.IsTupleIter.at x e
theorem ItS.lt {t : Bool} {hp : Heap} {i l : Addr} {k : Nat} (x : ItS t hp i l k) : i < hp.objs.size := by
  obtain ⟨o, e, _⟩ := x.obj
  exact Heap.lt_size e
section
variable {prog : Program} {w : World} {A : Around} {E : Value → Shared → Prop} {s : Shared}
theorem nextS {t : Bool} {i l : Addr} {k : Nat} {xs : Array Value} {x : Value} {Q : Value → Shared → Prop} (hi : ItS t s.heap i l k) (hl : SqS t s.heap l xs) (hx : xs[k]? = some x)
    (hQ : ∀ hq, ItS t hq i l (k + 1) → Heap.SameBut i s.heap hq → Q x { s with heap := hq }) : wpAny (model prog w) A (Builtin.SmallTypes.nextOf (.ref i)) Q E s := by
  cases t
  · exact wpAny_nextOf_list_item hi hl hx hQ
  · exact nextOf_tuple_item hi hl hx hQ
theorem nextS_end {t : Bool} {i l : Addr} {k : Nat} {xs : Array Value} {Q : Value → Shared → Prop} (hh : A.handled = none) (hi : ItS t s.heap i l k) (hl : SqS t s.heap l xs) (hx : xs[k]? = none)
    (hE : ∀ hq e, Heap.ExtBut i s.heap hq → (∃ o, hq.get? e = some o ∧ o.cls = .type "StopIteration") → E (.ref e) { s with heap := hq }) : wpAny (model prog w) A (Builtin.SmallTypes.nextOf (.ref i)) Q E s := by
  cases t
  · exact wpAny_nextOf_list_end hh hi hl hx hE
  · exact nextOf_tuple_end hh hi hl hx hE
/-- a heap that keeps all but what a zip's step may touch -/
def KpZ (hp hq : Heap) (z TO i1 i2 : Addr) : Prop := ∀ b o, b ≠ z → b ≠ TO → b ≠ i1 → b ≠ i2 → hp.get? b = some o → hq.get? b = some o
variable {t u : Bool} {z TI TO i1 i2 l1 l2 : Addr} {n m : Nat} {xs ys : Array Value} {a b : Value}
theorem zipS_next {x y : Value} {Q : Value → Shared → Prop} (D : ZipApart z TI TO i1 i2 l1 l2) (Z : IsZip s.heap z TI TO .none) (PI : IsPair s.heap TI (.ref i1) (.ref i2)) (PO : IsPair s.heap TO a b) (c1 : ItS t s.heap i1 l1 n) (c2 : ItS u s.heap i2 l2 m)
    (q1 : SqS t s.heap l1 xs) (q2 : SqS u s.heap l2 ys) (ex : xs[n]? = some x) (ey : ys[m]? = some y)
    (hQ : ∀ hq, IsZip hq z TI TO (rawInt s.heap.objs.size) → IsPair hq TO x y → ItS t hq i1 l1 (n + 1) → ItS u hq i2 l2 (m + 1) → IsPair hq s.heap.objs.size x y → hq.objs.size = s.heap.objs.size + 1 → KpZ s.heap hq z TO i1 i2 → Q (.ref s.heap.objs.size) { s with heap := hq }) :
    wpAny (model prog w) A (Builtin.«zip.__next__» ⟨[.ref z], []⟩) (fun fin s' => ∃ v, fin = .done (.ret v) ∧ Q v s') E s := by
  show wpAny _ _ (field (.ref z) 2 >>= _) _ _ _; refine wpAny_bind (wpAny_field Z rfl (x := .bool false) rfl ?_)
  show wpAny _ _ (field (.ref z) 3 >>= _) _ _ _; refine wpAny_bind (wpAny_field Z rfl (x := .ref TI) rfl (wpAny_bind (wpAny_seqItems PI rfl ?_)))
  show wpAny _ _ (Builtin.SmallTypes.ownedTupleIsFree (.ref z) >>= _) _ _ _; apply wpAny_bind; unfold Builtin.SmallTypes.ownedTupleIsFree
  refine wpAny_bind (wpAny_field Z rfl (x := .none) rfl (wpAny_pure ?_)); simp only [if_true]; apply wpAny_bind; apply wpAny_rule
  refine wpAny_bind (wpAny_field Z rfl (x := .ref TO) rfl (wpAny_bind (wpAny_setField_rec Z (by simp) fun g1 Z1 k1 => ?_)))
  have Z1 : IsZip g1 z TI TO .ellipsis := Z1
  apply wpAny_bind; simp only [List.zipIdx_cons, List.zipIdx_nil, List.forIn_cons, List.forIn_nil]; apply wpAny_bind; apply wpAny_bind; apply wpAny_onRaise
  show wpAny _ _ (Builtin.SmallTypes.nextOf (.ref i1) >>= _) _ _ _; apply wpAny_bind
  refine nextS (c1.ext k1.extBut D.i1z) (q1.ext k1.extBut D.l1z) ex fun g2 d1 k2 => wpAny_pure ?_
  have P2 : IsPair g2 TO a b := k2.extBut _ _ D.TOi1 (k1.extBut _ _ D.TOz PO)
  refine wpAny_bind (wpAny_seqItems P2 rfl (wpAny_bind (wpAny_updateSeq_pair P2 fun g3 P3 k3 => wpAny_bind (wpAny_letGo (wpAny_pure ?_)))))
  have P3 : IsPair g3 TO x b := P3
  apply wpAny_bind; apply wpAny_bind; apply wpAny_onRaise; show wpAny _ _ (Builtin.SmallTypes.nextOf (.ref i2) >>= _) _ _ _; apply wpAny_bind
  refine nextS (((c2.ext k1.extBut D.i2z).ext k2.extBut D.i12.symm).ext k3.extBut D.TOi2.symm) (((q2.ext k1.extBut D.l2z).ext k2.extBut D.l2i1).ext k3.extBut D.l2TO) ey fun g4 d2 k4 => wpAny_pure ?_
  have P4 : IsPair g4 TO x b := k4.extBut _ _ D.TOi2 P3
  refine wpAny_bind (wpAny_seqItems P4 rfl (wpAny_bind (wpAny_updateSeq_pair P4 fun g5 P5 k5 => wpAny_bind (wpAny_letGo (wpAny_pure (wpAny_pure ?_))))))
  have P5 : IsPair g5 TO x y := P5
  refine wpAny_bind (wpAny_seqItems P5 rfl (wpAny_bind (wpAny_newTuple ?_)))
  have sz : g5.objs.size = s.heap.objs.size := by rw [k5.1, k4.1, k3.1, k2.1, k1.1]
  have Z5 : IsZip g5 z TI TO .ellipsis := k5.extBut _ _ D.TOz.symm (k4.extBut _ _ D.i2z.symm (k3.extBut _ _ D.TOz.symm (k2.extBut _ _ D.i1z.symm Z1)))
  have kp5 : KpZ s.heap g5 z TO i1 i2 := fun b o e1 e2 e3 e4 e => k5.extBut _ _ e2 (k4.extBut _ _ e4 (k3.extBut _ _ e2 (k2.extBut _ _ e3 (k1.extBut _ _ e1 e))))
  have f1 : ItS t g5 i1 l1 (n + 1) := ((d1.ext k3.extBut D.TOi1.symm).ext k4.extBut D.i12).ext k5.extBut D.TOi1.symm
  have f2 : ItS u g5 i2 l2 (m + 1) := d2.ext k5.extBut D.TOi2.symm
  show wpAny _ _ (Builtin.SmallTypes.ownedTupleHandOut (.ref z) (.ref g5.objs.size) >>= _) _ _ _; apply wpAny_bind; unfold Builtin.SmallTypes.ownedTupleHandOut
  have Z6 : IsZip (g5.push { cls := .type "tuple", data := .seq #[x, y] }) z TI TO .ellipsis := Heap.get?_push_of_some _ Z5
  refine wpAny_bind (wpAny_setField_rec Z6 (by simp) fun g7 Z7 k7 => ?_)
  have Z7 : IsZip g7 z TI TO (rawInt g5.objs.size) := Z7
  refine wpAny_setField_rec Z7 (by simp) fun g8 Z8 k8 => ?_
  have Z8 : IsZip g8 z TI TO (rawInt g5.objs.size) := Z8
  have up : ∀ b o, b ≠ z → g5.get? b = some o → g8.get? b = some o := fun b o e1 e => k8.extBut _ _ e1 (k7.extBut _ _ e1 (Heap.get?_push_of_some _ e))
  have new8 : IsPair g8 g5.objs.size x y := k8.extBut _ _ (Nat.ne_of_gt (Heap.lt_size Z5)) (k7.extBut _ _ (Nat.ne_of_gt (Heap.lt_size Z5)) (Heap.get?_push_size _ rfl))
  have sz8 : g8.objs.size = g5.objs.size + 1 := by rw [k8.1, k7.1, Heap.size_push]
  rw [sz] at Z8 new8 sz8
  refine wpAny_pure ⟨_, rfl, ?_⟩
  show Q (.ref g5.objs.size) _
  rw [sz]
  exact hQ g8 Z8 (up _ _ D.TOz P5) (f1.at fun o e => up _ o D.i1z e) (f2.at fun o e => up _ o D.i2z e) new8 sz8 fun b o e1 e2 e3 e4 e => up b o e1 (kp5 b o e1 e2 e3 e4 e)
theorem zipS_stop {Q : Fin → Shared → Prop} (hh : A.handled = none) (D : ZipApart z TI TO i1 i2 l1 l2) (Z : IsZip s.heap z TI TO .none) (PI : IsPair s.heap TI (.ref i1) (.ref i2)) (PO : IsPair s.heap TO a b) (c1 : ItS t s.heap i1 l1 n) (c2 : ItS u s.heap i2 l2 m)
    (q1 : SqS t s.heap l1 xs) (q2 : SqS u s.heap l2 ys) (en : xs[n]? = none ∨ ys[m]? = none)
    (hE : ∀ hq e, KpZ s.heap hq z TO i1 i2 → (∃ o, hq.get? e = some o ∧ o.cls = .type "StopIteration") → E (.ref e) { s with heap := hq }) : wpAny (model prog w) A (Builtin.«zip.__next__» ⟨[.ref z], []⟩) Q E s := by
  show wpAny _ _ (field (.ref z) 2 >>= _) _ _ _; refine wpAny_bind (wpAny_field Z rfl (x := .bool false) rfl ?_)
  show wpAny _ _ (field (.ref z) 3 >>= _) _ _ _; refine wpAny_bind (wpAny_field Z rfl (x := .ref TI) rfl (wpAny_bind (wpAny_seqItems PI rfl ?_)))
  show wpAny _ _ (Builtin.SmallTypes.ownedTupleIsFree (.ref z) >>= _) _ _ _; apply wpAny_bind; unfold Builtin.SmallTypes.ownedTupleIsFree
  refine wpAny_bind (wpAny_field Z rfl (x := .none) rfl (wpAny_pure ?_)); simp only [if_true]; apply wpAny_bind; apply wpAny_rule
  refine wpAny_bind (wpAny_field Z rfl (x := .ref TO) rfl (wpAny_bind (wpAny_setField_rec Z (by simp) fun g1 Z1 k1 => ?_)))
  have Z1 : IsZip g1 z TI TO .ellipsis := Z1
  apply wpAny_bind; simp only [List.zipIdx_cons, List.zipIdx_nil, List.forIn_cons, List.forIn_nil]; apply wpAny_bind; apply wpAny_bind; apply wpAny_onRaise
  show wpAny _ _ (Builtin.SmallTypes.nextOf (.ref i1) >>= _) _ _ _; apply wpAny_bind
  cases ex : xs[n]? with
  | none =>
    refine nextS_end hh (c1.ext k1.extBut D.i1z) (q1.ext k1.extBut D.l1z) ex fun g2 e k2 he => ?_
    obtain ⟨oe, he1, he2⟩ := he
    have Z2 : IsZip g2 z TI TO .ellipsis := k2 _ _ D.i1z.symm Z1
    have ne : e ≠ z := fun r => by subst r; rw [Z2] at he1; cases he1; simp at he2
    exact wpAny_setField_rec Z2 (by simp) fun g3 _ k3 => hE g3 e (fun b o e1 _ e3 _ r => k3.extBut _ _ e1 (k2 _ _ e3 (k1.extBut _ _ e1 r))) ⟨oe, k3.extBut _ _ ne he1, he2⟩
  | some x =>
    have ey : ys[m]? = none := en.resolve_left (by rw [ex]; simp)
    refine nextS (c1.ext k1.extBut D.i1z) (q1.ext k1.extBut D.l1z) ex fun g2 d1 k2 => wpAny_pure ?_
    have P2 : IsPair g2 TO a b := k2.extBut _ _ D.TOi1 (k1.extBut _ _ D.TOz PO)
    refine wpAny_bind (wpAny_seqItems P2 rfl (wpAny_bind (wpAny_updateSeq_pair P2 fun g3 P3 k3 => wpAny_bind (wpAny_letGo (wpAny_pure ?_)))))
    apply wpAny_bind; apply wpAny_bind; apply wpAny_onRaise; show wpAny _ _ (Builtin.SmallTypes.nextOf (.ref i2) >>= _) _ _ _; apply wpAny_bind
    refine nextS_end hh (((c2.ext k1.extBut D.i2z).ext k2.extBut D.i12.symm).ext k3.extBut D.TOi2.symm) (((q2.ext k1.extBut D.l2z).ext k2.extBut D.l2i1).ext k3.extBut D.l2TO) ey fun g4 e k4 he => ?_
    obtain ⟨oe, he1, he2⟩ := he
    have Z4 : IsZip g4 z TI TO .ellipsis := k4 _ _ D.i2z.symm (k3.extBut _ _ D.TOz.symm (k2.extBut _ _ D.i1z.symm Z1))
    have ne : e ≠ z := fun r => by subst r; rw [Z4] at he1; cases he1; simp at he2
    exact wpAny_setField_rec Z4 (by simp) fun g5 _ k5 => hE g5 e (fun b o e1 e2 e3 e4 r => k5.extBut _ _ e1 (k4 _ _ e4 (k3.extBut _ _ e2 (k2.extBut _ _ e3 (k1.extBut _ _ e1 r))))) ⟨oe, k5.extBut _ _ ne he1, he2⟩
theorem pyNextS {x y : Value} {Q : Option Value → Shared → Prop} (D : ZipApart z TI TO i1 i2 l1 l2) (Z : IsZip s.heap z TI TO .none) (PI : IsPair s.heap TI (.ref i1) (.ref i2)) (PO : IsPair s.heap TO a b) (c1 : ItS t s.heap i1 l1 n) (c2 : ItS u s.heap i2 l2 m)
    (q1 : SqS t s.heap l1 xs) (q2 : SqS u s.heap l2 ys) (ex : xs[n]? = some x) (ey : ys[m]? = some y)
    (hQ : ∀ hq, IsZip hq z TI TO (rawInt s.heap.objs.size) → IsPair hq TO x y → ItS t hq i1 l1 (n + 1) → ItS u hq i2 l2 (m + 1) → IsPair hq s.heap.objs.size x y → hq.objs.size = s.heap.objs.size + 1 → KpZ s.heap hq z TO i1 i2 → Q (some (.ref s.heap.objs.size)) { s with heap := hq }) :
    wpAny (model prog w) A (pyNext (.ref z)) Q E s := by
  have ty : s.TypeIs (.ref z) "zip" := ⟨_, Z, rfl⟩
  unfold pyNext; refine wpAny_bind (wpAny_attempt (wpAny_callSpecial?_slot (name := Str.ofString "__next__") ty F.slot_zip_next ?_))
  exact wpAny_call_entry F.slot_zip_next ty F.entry_zip_next (zipS_next D Z PI PO c1 c2 q1 q2 ex ey fun hq r1 r2 r3 r4 r5 r6 r7 => wpAny_pure (hQ hq r1 r2 r3 r4 r5 r6 r7)) (F.args_zip_next_1 _)
theorem pyNextS_stop {Q : Option Value → Shared → Prop} (hh : A.handled = none) (D : ZipApart z TI TO i1 i2 l1 l2) (Z : IsZip s.heap z TI TO .none) (PI : IsPair s.heap TI (.ref i1) (.ref i2)) (PO : IsPair s.heap TO a b) (c1 : ItS t s.heap i1 l1 n) (c2 : ItS u s.heap i2 l2 m)
    (q1 : SqS t s.heap l1 xs) (q2 : SqS u s.heap l2 ys) (en : xs[n]? = none ∨ ys[m]? = none) (hQ : ∀ hq, KpZ s.heap hq z TO i1 i2 → Q none { s with heap := hq }) : wpAny (model prog w) A (pyNext (.ref z)) Q E s := by
  have ty : s.TypeIs (.ref z) "zip" := ⟨_, Z, rfl⟩
  unfold pyNext; refine wpAny_bind (wpAny_attempt (wpAny_callSpecial?_slot (name := Str.ofString "__next__") ty F.slot_zip_next ?_))
  refine wpAny_call_entry F.slot_zip_next ty F.entry_zip_next (zipS_stop hh D Z PI PO c1 c2 q1 q2 en fun hq e kp he => ?_) (F.args_zip_next_1 _)
  obtain ⟨o, he1, he2⟩ := he
  exact wpAny_bind (wpAny_isInstance (T := "StopIteration") (b := true) ⟨o, he1, he2⟩ isSubtype_stop (wpAny_pure (hQ _ kp)))
end
/-! ### zip made -/
def itN : Bool → String
  | true => "tuple_iterator"
  | false => "list_iterator"
abbrev zq1 (t : Bool) (h : Heap) (l1 : Addr) : Heap := h.push { cls := .type (itN t), data := .fields #[.ref l1, .int 0 0] }
abbrev zq2 (t u : Bool) (h : Heap) (l1 l2 : Addr) : Heap := (zq1 t h l1).push { cls := .type (itN u), data := .fields #[.ref l2, .int 0 0] }
abbrev zq3 (t u : Bool) (h : Heap) (l1 l2 : Addr) : Heap := (zq2 t u h l1 l2).push { cls := .type "tuple", data := .seq #[.ref h.objs.size, .ref (zq1 t h l1).objs.size] }
abbrev zq4 (t u : Bool) (h : Heap) (l1 l2 : Addr) : Heap := (zq3 t u h l1 l2).push { cls := .type "tuple", data := .seq #[.none, .none] }
abbrev zq5 (t u : Bool) (h : Heap) (l1 l2 : Addr) : Heap := (zq4 t u h l1 l2).push { cls := .type "zip", data := .fields #[.none, .bool false, .bool false, .ref (zq2 t u h l1 l2).objs.size, .ref (zq3 t u h l1 l2).objs.size] }
theorem zip_newS (l1 l2 : Addr) (xs ys : Array Value) :
    Meets (Builtin.«zip.__new__» ⟨[.type "zip", .ref l1, .ref l2], []⟩) (fun _ R s => s.heap.IsList l1 xs ∧ s.heap.IsTuple l2 ys ∧ R (.ok (.ret (.ref (zq4 false true s.heap l1 l2).objs.size))) { s with heap := zq5 false true s.heap l1 l2 }) :=
  .of_wp fun prog w A R s h => by
    obtain ⟨hp, g, d, tk, os⟩ := s
    obtain ⟨k1, k2, h⟩ := h
    have hsub := sub_zip
    have j1 : Heap.IsList (Shared.heap ⟨hp, g, d, tk, os⟩) l1 xs := k1
    have j2 : Heap.IsTuple (Shared.heap ⟨hp.push { cls := .type "list_iterator", data := .fields #[.ref l1, .int 0 0] }, g, d, tk, os⟩) l2 ys := Heap.IsTuple.push k2 _
    wp_walk using wpAny_pyIter_list j1, wpAny_pyIter_tuple j2
    exact ⟨_, rfl, h⟩
section
variable {prog : Program} {w : World} {A : Around} {E : Value → Shared → Prop} {s : Shared}
theorem call_zipS {l1 l2 : Addr} {xs ys : Array Value} {Q : Value → Shared → Prop} (k1 : s.heap.IsList l1 xs) (k2 : s.heap.IsTuple l2 ys)
    (h : ∀ hq, IsZip hq (s.heap.objs.size + 4) (s.heap.objs.size + 2) (s.heap.objs.size + 3) .none → IsPair hq (s.heap.objs.size + 2) (.ref s.heap.objs.size) (.ref (s.heap.objs.size + 1)) → IsPair hq (s.heap.objs.size + 3) .none .none →
      ItS false hq s.heap.objs.size l1 0 → ItS true hq (s.heap.objs.size + 1) l2 0 → hq.objs.size = s.heap.objs.size + 5 → (∀ b o, s.heap.get? b = some o → hq.get? b = some o) → Q (.ref (s.heap.objs.size + 4)) { s with heap := hq }) :
    wpAny (model prog w) A (call (.type "zip") [.ref l1, .ref l2]) Q E s := by
  refine callType_new F.called_zip (by decide) (F.typeCall_zip_2 _ _) (F.newCall_zip_2 _ _) (fun r => F.args_object_init_3 r _ _) F.entry_zip_new (zip_newS l1 l2 xs ys) ⟨k1, k2, ?_⟩
  have e1 : (zq1 false s.heap l1).objs.size = s.heap.objs.size + 1 := Heap.size_push ..
  have e2 : (zq2 false true s.heap l1 l2).objs.size = s.heap.objs.size + 2 := by rw [Heap.size_push, e1]
  have e3 : (zq3 false true s.heap l1 l2).objs.size = s.heap.objs.size + 3 := by rw [Heap.size_push, e2]
  have e4 : (zq4 false true s.heap l1 l2).objs.size = s.heap.objs.size + 4 := by rw [Heap.size_push, e3]
  have e5 : (zq5 false true s.heap l1 l2).objs.size = s.heap.objs.size + 5 := by rw [Heap.size_push, e4]
  have f5 : (zq5 false true s.heap l1 l2).get? (zq4 false true s.heap l1 l2).objs.size = some _ := Heap.get?_push_size _ rfl
  have f4 : (zq5 false true s.heap l1 l2).get? (zq3 false true s.heap l1 l2).objs.size = some _ := Heap.get?_push_of_some _ (Heap.get?_push_size _ rfl)
  have f3 : (zq5 false true s.heap l1 l2).get? (zq2 false true s.heap l1 l2).objs.size = some _ := Heap.get?_push_of_some _ (Heap.get?_push_of_some _ (Heap.get?_push_size _ rfl))
  have f2 : (zq5 false true s.heap l1 l2).get? (zq1 false s.heap l1).objs.size = some _ := Heap.get?_push_of_some _ (Heap.get?_push_of_some _ (Heap.get?_push_of_some _ (Heap.get?_push_size _ rfl)))
  have f1 : (zq5 false true s.heap l1 l2).get? s.heap.objs.size = some _ := Heap.get?_push_of_some _ (Heap.get?_push_of_some _ (Heap.get?_push_of_some _ (Heap.get?_push_of_some _ (Heap.get?_push_size _ rfl))))
  show _ ∧ _
  rw [e2, e3, e4] at f5
  rw [e1, e2] at f3
  rw [e3] at f4
  rw [e1] at f2
  rw [e4]
  exact ⟨⟨_, f5, rfl⟩, h _ f5 f3 f4 ⟨_, f1, rfl, rfl⟩ ⟨_, f2, rfl, rfl⟩ e5 fun b o r => Heap.get?_push_of_some _ (Heap.get?_push_of_some _ (Heap.get?_push_of_some _ (Heap.get?_push_of_some _ (Heap.get?_push_of_some _ r))))⟩
end
/-- a list beside a tuple, turn by turn -/
def Itm (K : PySem.W.Frag) (a b : Addr) : L2.It where
  go := fun i H => ∃ (xs ys : List V) (x y : V), SqL K H a xs ∧ SqT K H b ys ∧ xs[i]? = some x ∧ ys[i]? = some y
  yld := fun i H v H' => ∃ T x y, v = .ref T ∧ H T = none ∧ H' = upd H T (.tup [x, y]) ∧ (∀ xs, SqL K H a xs → xs[i]? = some x) ∧ (∀ ys, SqT K H b ys → ys[i]? = some y)
  stop := fun i H => ∃ xs ys : List V, SqL K H a xs ∧ SqT K H b ys ∧ (xs.length ≤ i ∨ ys.length ≤ i)
theorem five_of {z TI TO i1 i2 c : Addr} {P : Addr → Prop} (h : c ∈ [z, TI, TO, i1, i2]) (p1 : P z) (p2 : P TI) (p3 : P TO) (p4 : P i1) (p5 : P i2) : P c := by
  simp only [List.mem_cons, List.not_mem_nil, or_false] at h
  rcases h with rfl | rfl | rfl | rfl | rfl <;> assumption
theorem off5 {z TI TO i1 i2 c : Addr} (h : c ∉ [z, TI, TO, i1, i2]) : c ≠ z ∧ c ≠ TO ∧ c ≠ i1 ∧ c ≠ i2 := ⟨fun e => h (by simp [e]), fun e => h (by simp [e]), fun e => h (by simp [e]), fun e => h (by simp [e])⟩
theorem turn_mix {P : Program} {w : World} {K : PySem.W.Frag} {elts : List Expr} {kk : Nat} {tpos : Pos} {a b z TI TO i1 i2 : Addr} (D : ZipApart z TI TO i1 i2 a b) :
    Turn P w K (.Tuple elts kk tpos) (Itm K a b) [z, TI, TO, i1, i2] z (fun i h => IsZip h z TI TO .none ∧ IsPair h TI (.ref i1) (.ref i2) ∧ (∃ x y, IsPair h TO x y) ∧ ItS false h i1 a i ∧ ItS true h i2 b i) where
  mem := List.mem_cons_self
  obj := fun i h st c hc => five_of (P := fun c => ∃ o, h.get? c = some o ∧ ∀ v, o.data ≠ .cell v) hc ⟨_, st.1, fun v q => nomatch q⟩ ⟨_, st.2.1, fun v q => nomatch q⟩ ⟨_, st.2.2.1.choose_spec.choose_spec, fun v q => nomatch q⟩ st.2.2.2.1.obj st.2.2.2.2.obj
  keep := fun i h h' st k => ⟨k z (by simp) _ st.1, k TI (by simp) _ st.2.1, ⟨_, _, k TO (by simp) _ st.2.2.1.choose_spec.choose_spec⟩, st.2.2.2.1.at fun o q => k i1 (by simp) o q, st.2.2.2.2.at fun o q => k i2 (by simp) o q⟩
  item := by
    intro X e1 e2 e3 hc i pins s σ H E I hf st hg
    subst e1 e2 e3
    obtain ⟨Z, PI, ⟨x0, y0, PO⟩, c1, c2⟩ := st
    obtain ⟨xs, ys, x, y, sx, sy, hx, hy⟩ := hg
    obtain ⟨us, rx, px, _⟩ := I.list sx
    obtain ⟨vs, ry, py, _⟩ := I.tuple sy
    obtain ⟨u, hu, ru⟩ := rx.get hx
    obtain ⟨v, hv, rv⟩ := ry.get hy
    have zl : z < s.heap.objs.size := Heap.lt_size Z
    refine pyNextS (t := false) (u := true) D Z PI PO c1 c2 (show SqS false s.heap a us.toArray from px.isList) (show SqS true s.heap b vs.toArray from py) (x := u) (y := v) (by simpa using hu) (by simpa using hv) fun g1 Z1 P1 d1 d2 new sz kp => ?_
    refine ⟨_, rfl, wpAny_letOwnedTupleGo_zip (s := { s with heap := g1 }) Z1 fun g2 Z2 sb => ?_⟩
    have new2 : g2.get? s.heap.objs.size = some { cls := .type "tuple", data := .seq #[u, v] } := (sb.2 _ (Nat.ne_of_gt zl)).trans new
    have I2 : Inv X pins σ (upd H s.heap.objs.size (.tup [x, y])) { s with heap := g2 } := by
      refine I.turnedNew (t' := s.toks) (ch := [z, TI, TO, i1, i2]) (fun c o hb q => ?_) hf (Nat.le_refl _) ⟨by show 2 ≤ sizeLine; decide, [u, v], .cons ru (.cons rv .nil), ⟨_, new2, rfl, _, rfl⟩⟩
      obtain ⟨n1, n2, n3, n4⟩ := off5 hb
      exact (sb.2 c n1).trans (kp c o n1 n2 n3 n4 q)
    refine ⟨.ref s.heap.objs.size, _, I2, rfl, ⟨_, x, y, rfl, I.hok.fresh (Nat.le_refl _), rfl, fun l hl => by rw [I.list_inj hl sx]; exact hx, fun l hl => by rw [I.tuple_inj hl sy]; exact hy⟩, ⟨Z2, (sb.2 _ D.TIz).trans (kp _ _ D.TIz D.TITO D.TIi1 D.TIi2 PI), ⟨u, v, (sb.2 _ D.TOz).trans P1⟩, d1.at fun o q => (sb.2 _ D.i1z).trans q, d2.at fun o q => (sb.2 _ D.i2z).trans q⟩, fun c hcm => ?_⟩
    have lt : c < s.heap.objs.size := five_of (P := fun c => c < s.heap.objs.size) hcm zl (Heap.lt_size PI) (Heap.lt_size PO) c1.lt c2.lt
    rw [upd_ne (Nat.ne_of_lt lt)]; exact (hf c hcm).1
  done := by
    intro X e1 e2 e3 hc i pins s σ H E I hf st hg
    subst e1 e2 e3
    obtain ⟨Z, PI, ⟨x0, y0, PO⟩, c1, c2⟩ := st
    obtain ⟨xs, ys, sx, sy, en⟩ := hg
    obtain ⟨us, rx, px, _⟩ := I.list sx
    obtain ⟨vs, ry, py, _⟩ := I.tuple sy
    have lx := rx.length
    have ly := ry.length
    have en' : us.toArray[i]? = none ∨ vs.toArray[i]? = none := en.imp (fun h => by simp; omega) fun h => by simp; omega
    refine pyNextS_stop (t := false) (u := true) (I.ok.hd hc) D Z PI PO c1 c2 (show SqS false s.heap a us.toArray from px.isList) (show SqS true s.heap b vs.toArray from py) en' fun g1 kp => ⟨rfl, I.turnedL (t' := s.toks) (ch := [z, TI, TO, i1, i2]) (fun c o hb q => ?_) hf⟩
    obtain ⟨n1, n2, n3, n4⟩ := off5 hb
    exact kp c o n1 n2 n3 n4 q
  self := fun A i s Q E st h => wpAny_pyIter_zip st.1 h
def iMix (K : PySem.W.Frag) (ta : TA) : TI := fun σ H R => ta σ H fun vs H1 => ∃ a b xs ys, vs = [.ref a, .ref b] ∧ ((SqL K H1 a xs ∧ SqL K H1 b ys ∧ R (Itz K a b) H1) ∨ (SqT K H1 a xs ∧ SqT K H1 b ys ∧ R (ItzT K a b) H1) ∨ (SqL K H1 a xs ∧ SqT K H1 b ys ∧ R (Itm K a b) H1))
theorem pi_mix {X : Cx} {e e2 : Expr} {ta : TA} {p pos tpos : Pos} {elts : List Expr} {kk : Nat} (hg : Gl X "zip") (hm : X.mg "zip" = none) (ha : PA X [e, e2] ta) (hs : starEach [e, e2] X.env = (false, eval e X.env) :: starEach [e2] X.env) (hpl : (backTo pos (starEach [e2] X.env)).any (·.1) = false) :
    PI X (.Tuple elts kk tpos) (.Call (.Name "zip" p) [e, e2] [] pos) (iMix X.K ta) := by
  refine ⟨fun pins s σ H R I h => Call_ (ld_blt I hg hm PyProof.Rows.boot_zip (PyProof.Rows.callWith_type1 (thn (ha.run pos pins s σ H _ I h) fun us s1 ⟨vs, H1, I1, r1, q1⟩ => ?_) hs hpl))⟩
  obtain ⟨a, b, xs, ys, rfl, q1⟩ := q1
  obtain ⟨u1, u2, rfl, r1, r2⟩ := vals2 r1
  cases r1
  cases r2
  have fresh : ∀ c, c ∈ [s1.heap.objs.size + 4, s1.heap.objs.size + 2, s1.heap.objs.size + 3, s1.heap.objs.size, s1.heap.objs.size + 1] → FpOk X pins H1 c := fun c hcm => by
    have le : s1.heap.objs.size ≤ c := five_of (P := fun c => s1.heap.objs.size ≤ c) hcm (by omega) (by omega) (by omega) (by omega) (by omega)
    exact I1.fpOk le (I1.hok.fresh le)
  rcases q1 with ⟨sx, sy, q⟩ | ⟨sx, sy, q⟩ | ⟨sx, sy, q⟩
  · obtain ⟨us, rx, px, _⟩ := I1.list sx
    obtain ⟨vs, ry, py, _⟩ := I1.list sy
    refine call_zip_2 px.isList py.isList fun g Z PI PO c1 c2 sz kp => wpAny_pyIter_zip Z ?_
    exact ⟨_, [_, _, _, _, _], _, _, H1, rfl, I1.kept (t' := s1.toks) kp, turn_zip (PySem.W.ktu_apart s1.heap.objs.size a b px.lt py.lt), ⟨Z, PI, ⟨_, _, PO⟩, c1, c2⟩, fresh, q⟩
  · obtain ⟨us, rx, px, _⟩ := I1.tuple sx
    obtain ⟨vs, ry, py, _⟩ := I1.tuple sy
    obtain ⟨o1, ho1, _⟩ := id px
    obtain ⟨o2, ho2, _⟩ := id py
    refine call_zipT px py fun g Z PI PO c1 c2 sz kp => wpAny_pyIter_zip Z ?_
    exact ⟨_, [_, _, _, _, _], _, _, H1, rfl, I1.kept (t' := s1.toks) kp, turn_zipT (PySem.W.ktu_apart s1.heap.objs.size a b (Heap.lt_size ho1) (Heap.lt_size ho2)), ⟨Z, PI, ⟨_, _, PO⟩, c1, c2⟩, fresh, q⟩
  · obtain ⟨us, rx, px, _⟩ := I1.list sx
    obtain ⟨vs, ry, py, _⟩ := I1.tuple sy
    obtain ⟨o2, ho2, _⟩ := id py
    refine call_zipS px.isList py fun g Z PI PO c1 c2 sz kp => wpAny_pyIter_zip Z ?_
    exact ⟨_, [_, _, _, _, _], _, _, H1, rfl, I1.kept (t' := s1.toks) kp, turn_mix (PySem.W.ktu_apart s1.heap.objs.size a b px.lt (Heap.lt_size ho2)), ⟨Z, PI, ⟨_, _, PO⟩, c1, c2⟩, fresh, q⟩
section
variable {K : PySem.W.Frag} {F : Fz} {H : Hp}
theorem walkd_mix {a b : Addr} {vs ws : List V} {ds es : List D} (f : F a) (h : H a = some (.lst vs)) (d : Dats K F H vs ds) (h2 : F b ∧ H b = some (.tup ws) ∨ KTup K b ws) (d2 : Dats K F H ws es) : WalkD K F H (Itm K a b) (zipD ds es) where
  go := fun i F1 H1 x hi => by
    rw [zipD_len] at hi
    have l1 := d.length
    have l2 := d2.length
    exact ⟨vs, ws, vs[i]'(by omega), ws[i]'(by omega), SqL.of ((x a f).2.trans h), sqT_ext x h2, by simp, by simp⟩
  stop := fun F1 H1 x => ⟨vs, ws, SqL.of ((x a f).2.trans h), sqT_ext x h2, by have l1 := d.length; have l2 := d2.length; rw [zipD_len]; omega⟩
  yld := fun i e F1 H1 y H2 x he hy => by
    obtain ⟨e1, e2, g1, g2, rfl⟩ := zipD_get he
    obtain ⟨T, z1, z2, rfl, hT, rfl, k1, k2⟩ := hy
    obtain ⟨w1, hw1, dw1⟩ := d.get g1
    obtain ⟨w2, hw2, dw2⟩ := d2.get g2
    cases (k1 vs (SqL.of ((x a f).2.trans h))).symm.trans hw1
    cases (k2 ws (sqT_ext x h2)).symm.trans hw2
    exact .tup hT (.cons (Dat.ext x dw1) (.one (Dat.ext x dw2)))
end
section
variable {X : Cx} {xr : XRep} {W : WX} {cx : Cxt} {tg : Expr}
theorem pdi_zip {a b : Expr} {x y : Ex} {elts : List Expr} {kk : Nat} {tpos p pos : Pos} (hg : Gl X "zip") (hm : X.mg "zip" = none) (hs : noStar a = true) (hs2 : noStar b = true) (ha : PD X xr W a (evE cx x)) (hb : PD X xr W b (evE cx y)) :
    PDi X xr W (.Tuple elts kk tpos) (.Call (.Name "zip" p) [a, b] [] pos) (evI cx (.zip x y)) := by
  obtain ⟨ta, pa, ka⟩ := ha.frz.run
  obtain ⟨tb, pb, kb⟩ := hb.frz.run
  refine ⟨_, pi_mix hg hm (pa_cons pa (pa_cons pb pa_nil (star_one hs2 _ _)) (star_one hs _ _)) (star_one hs _ _) (star_no (by simp [hs2]) _ _), fun F H O σ ρ R S w => ?_⟩
  simp only [evI] at w
  refine ka F H O σ ρ _ S (WantG.seq .refl (.refl _) w fun d1 ρ1 F1 H1 O1 v1 S1 _ t1 p1 h1 w => ?_)
  refine kb F1 H1 O1 σ ρ1 _ S1 (WantG.seq t1 p1 w fun d2 ρ2 F2 H2 O2 v2 S2 t12 t2 p2 h2 w => ?_)
  obtain ⟨is, he, w⟩ := w.lift
  have h1' := Dat.ext (S1.ext t12) h1
  have sq : ∀ {v : V} {ds : List D}, Dat X.K F2 H2 v (.tuple ds) → ∃ a vs, v = .ref a ∧ (F2 a ∧ H2 a = some (.tup vs) ∨ KTup X.K a vs) ∧ Dats X.K F2 H2 vs ds := fun {v ds} h => by
    cases h with
    | tup f h d => exact ⟨_, _, rfl, .inl ⟨f, h⟩, d⟩
    | ktup h d => exact ⟨_, _, rfl, .inr h, d⟩
  cases d1 <;> try (cases he; done)
  · cases d2 <;> try (cases he; done)
    · cases he
      cases h1' with
      | lst f h d => cases h2 with
        | lst f2 h2 d2 => exact ⟨_, _, _, _, rfl, .inl ⟨SqL.of h, SqL.of h2, w F2 H2 O2 _ S2 t2 p2 (walkd_zip f h d f2 h2 d2)⟩⟩
    · cases he
      obtain ⟨a2, ws, rfl, h2', d2⟩ := sq h2
      cases h1' with
      | lst f h d => exact ⟨_, _, _, _, rfl, .inr (.inr ⟨SqL.of h, sqT_ext (fun a f => ⟨f, rfl⟩) h2', w F2 H2 O2 _ S2 t2 p2 (walkd_mix f h d h2' d2)⟩)⟩
  · cases d2 <;> try (cases he; done)
    cases he
    obtain ⟨a1, vs, rfl, h, d⟩ := sq h1'
    obtain ⟨a2, ws, rfl, h2', d2⟩ := sq h2
    exact ⟨_, _, _, _, rfl, .inr (.inl ⟨sqT_ext (fun a f => ⟨f, rfl⟩) h, sqT_ext (fun a f => ⟨f, rfl⟩) h2', w F2 H2 O2 _ S2 t2 p2 (walkd_zipT h d h2' d2)⟩)⟩
end
end MI
namespace MI
open PySem PySem.Spec PyProof.Rows L2
variable {K : PySem.W.Frag} {F F' : Fz} {H H' : Hp} {O O' : Fz} {σ σ' : L2.St} {ρ ρ' : Env} {xr : XRep} {W : WX}
section
variable {X : Cx} {cx : Cxt}
/-- nothing is said -/
theorem pds_bad {st : Stmt} {ev : Env → Out Fl} (h : ∀ ρ, ev ρ = .no) : PDst X xr W st ev :=
  ⟨fun _ _ _ => False, ⟨fun pins s σ H D I h => h.elim⟩, fun F H O σ ρ D S w => by rw [h] at w; exact w⟩
theorem pd_bad {e : Expr} {ev : Env → Out R} (h : ∀ ρ, ev ρ = .no) : PD X xr W e ev :=
  ⟨fun _ _ _ => False, ⟨fun pins s σ H Q I h => h.elim⟩, fun F H O σ ρ Q S w => by rw [h] at w; exact w⟩
theorem pdt_bad {e : Expr} {ev : Env → Out Bool} (h : ∀ ρ, ev ρ = .no) : PDt X xr W e ev :=
  ⟨fun _ _ _ => False, ⟨fun pins s σ H Q I h => h.elim⟩, fun F H O σ ρ Q S w => by rw [h] at w; exact w⟩
/-! ### while -/
def whK (c : Env → Out Bool) (b : Env → Out Fl) (n : Nat) (k : Bool) (ρ1 : Env) : Out Fl := if k then (match b ρ1 with
    | .ok .next ρ2 => whileL c b n ρ2
    | .ok .cont ρ2 => whileL c b n ρ2
    | .ok .brk ρ2 => .ok .next ρ2
    | o => o) else .ok .next ρ1
theorem whileL_succ (c : Env → Out Bool) (b : Env → Out Fl) (n : Nat) (ρ : Env) : whileL c b (n + 1) ρ = (c ρ).bind (whK c b n) := by
  unfold whileL Out.bind whK
  cases c ρ with
  | ok k ρ1 => cases k <;> rfl
  | ex x ρ1 => rfl
  | no => rfl
theorem pds_while {c : Expr} {body : List Stmt} {z : Ex} {b : List Sx} {pos : Pos} (hp : PassesOwn (model X.prog X.w) X.A X.env X.xe) (hc : PDt X xr W c (evT cx z)) (hb : PDss X xr W body (evSs cx b)) : PDst X xr W (.While c body [] pos) (evS cx (.while z b)) := by
  obtain ⟨tc, pc, kc⟩ := hc.run
  obtain ⟨tb, pb, kb⟩ := hb.run
  refine ⟨_, ps_whileE hp pc pb pss_nil, fun F H O σ ρ D S w => ?_⟩
  simp only [evS] at w
  refine ⟨fun m σ' H' => ∃ F' O' ρ', StI X.K F' H' O' σ' ρ' ∧ WantS X.K xr W F' H' O' σ' ρ' (whileL (evT cx z) (evSs cx b) m ρ') D, ⟨cx.fuel, F, O, ρ, S, w⟩, ?_⟩
  rintro m σ2 H2 ⟨F2, O2, ρ2, S2, w2⟩
  cases m with
  | zero => exact w2.elim
  | succ n =>
    rw [whileL_succ] at w2
    refine kc F2 H2 O2 σ2 ρ2 _ S2 (WantS.seq .refl (.refl _ _) w2 fun k ρ3 F3 H3 O3 k' S3 t13 t3 p3 r3 w3 => ?_)
    subst r3
    cases k' with
    | false => exact ite_ff (w3 F3 H3 O3 σ2 S3 t3 p3)
    | true =>
      refine ite_tt ⟨fun σ' H' => ∃ F' O' ρ', StI X.K F' H' O' σ' ρ' ∧ WantS X.K xr W F' H' O' σ' ρ' (whileL (evT cx z) (evSs cx b) n ρ') D, fun σ' H' h => ⟨n, Nat.lt_succ_self n, h⟩, ?_⟩
      have w4 := WantS.after w3 t3 p3
      refine kb F3 H3 O3 σ2 ρ3 _ S3 ?_
      unfold whK at w4
      rw [if_pos rfl] at w4
      cases e : evSs cx b ρ3 with
      | no => rw [e] at w4; exact w4.elim
      | ex x ρ5 => rw [e] at w4; exact w4
      | ok fl ρ5 =>
        rw [e] at w4
        cases fl with
        | next => exact fun F5 H5 O5 σ5 S5 t5 p5 => ⟨F5, O5, ρ5, S5, WantS.after w4 t5 p5⟩
        | cont => exact fun F5 H5 O5 σ5 S5 t5 p5 => ⟨F5, O5, ρ5, S5, WantS.after w4 t5 p5⟩
        | brk => exact w4
        | ret m => exact w4
end
end MI
namespace MI
open PySem PySem.Spec PyProof.Rows L2
variable {K : PySem.W.Frag} {F F' : Fz} {H H' : Hp} {O O' : Fz} {σ σ' : L2.St} {ρ ρ' : Env} {xr : XRep} {W : WX}
/-! ### a def with a star parameter -/
def FnRG (P : Program) (w : World) (K : PySem.W.Frag) (mg : Str → Option Value) (base : Heap) (k : Nat) (f : Addr) (sp : Sp) : Prop :=
  ∀ (A : Around) (outer : List PySem.Env) (s : Shared) (H : Hp) (us : List Value) (vs : List V) (Q : VK) (E : XK), A.guards = some [] → Room k A → Env0 P w K mg base A outer s H → Vals vs us → sp vs H Q E → codeAny (model P w) A (.call (.ref f) ⟨us, []⟩) (CR (L2.CX P w) outer P w H s Q E) s
/-- its promise: m values, what is left is a new tuple -/
def SpStar (K : PySem.W.Frag) (xr : XRep) (φ : List M → FOut) (m : Nat) : Sp := fun vs H Q E => ∃ ws rest, vs = ws ++ rest ∧ ws.length = m ∧ rest.length ≤ sizeLine ∧ ∀ p, H p = none → SpMi K xr φ (ws ++ [V.ref p]) (upd H p (.tup rest)) Q E
/-- what its text binds -/
def StarBind (fd : FuncData) (ps : List Str) (pv : Str) : Prop := ∀ us rest : List Value, us.length = ps.length → bindArgs fd ⟨us ++ rest, []⟩ = (newTuple rest >>= fun t => pure (ps.zip us ++ [(pv, t)]))
theorem starG_of {P : Program} {w : World} {K : PySem.W.Frag} {mg : Str → Option Value} {base : Heap} {k : Nat} {f : Addr} {name qual pv : Str} {params : Arguments} {body : List Stmt} {scope : Scope} {dV kV doc pm cdv ct oc : Value} {an od : Option Addr}
    {osl : Array (Option Value)} {N ps : List Str} {xr : XRep} {φ : List M → FOut} (lk : K.lookup f = some ⟨oc, od, .func (PySem.W.fnOf name qual params body scope dV kV doc pm an cdv ct), osl⟩) (hcd : PySem.W.codeIn K cdv qual = true) (S : FnScope N (ps ++ [pv]) scope) (hb : StarBind (PySem.W.fnOf name qual params body scope dV kV doc pm an cdv ct) ps pv)
    (hbody : ∀ (A : Around) (outer : List PySem.Env) (s : Shared) (H : Hp) (vs : List V) (Q : VK) (E : XK), A.guards = some [] → Room k (A.deeper (envOfC qual scope s.heap.objs.size f cdv)) → SpMi K xr φ vs H Q E →
      ∃ t, PSs (cxOf (L2.CX P w) P w K mg base N qual scope f cdv A outer s H E) body t ∧ t { nx := fun _ H' => Q .non H', rt := Q } (start N vs) H) :
    FnRG P w K mg base (k + 1) f (SpStar K xr φ ps.length) := by
  intro A outer s H us vs Q E ga hr e0 r hsp
  obtain ⟨ws, rest, rfl, hl, hz, hq⟩ := hsp
  obtain ⟨u1, u2, rfl, r1, r2⟩ := StX.vals_split r
  have hn : H s.heap.objs.size = none := e0.hok.fresh (Nat.le_refl _)
  have l1 : u1.length = ps.length := r1.length.symm.trans hl
  have l2 : u2.length ≤ sizeLine := by rw [← r2.length]; exact hz
  refine StX.run_bnd lk hcd S hr e0 (G := fun xs H2 => ∃ p, H p = none ∧ xs = ws ++ [V.ref p] ∧ H2 = upd H p (.tup rest)) (fun A' Ex Q' h => ?_) fun s2 H2 xs ⟨p, hp, q1, q2⟩ hr' => ?_
  · rw [hb u1 u2 l1]
    have new : ObjOk P w (upd H s.heap.objs.size (.tup rest)) (s.heap.push ({ cls := .type "tuple", data := .seq u2.toArray } : Obj)) s.heap.objs.size (.tup rest) := ⟨hz, u2, r2, _, Heap.get?_push_size _ rfl, rfl, _, rfl⟩
    have un := StX.un_laid (fs := frs outer) (s := s) (o := ({ cls := .type "tuple", data := .seq u2.toArray } : Obj)) (u := .tup rest) hn
    refine wpAny_bind (wpAny_newTuple (wpAny_pure ?_) l2)
    have z := h _ _ (ws ++ [V.ref s.heap.objs.size]) (u1 ++ [Value.ref s.heap.objs.size]) (StX.env0_laid e0 new) un rfl (fun e s' => StX.cxUp outer s H _ _ E e s' un (fun _ _ q => Heap.get?_push_of_some _ q) rfl) (r1.append (.cons rfl .nil)) (by simp [hl]) ⟨_, hn, rfl, rfl⟩
    rwa [List.zip_append l1.symm] at z
  · subst q1 q2
    exact hbody A outer s2 _ _ Q E ga hr' (hq p hp)
section
variable {X : Cx} {cx : Cxt}
/-- .. called -/
theorem callR_ok {F0 O0 : Fz} {H0 : Hp} {ρ0 : Env} {all out : List V} {rs : List R} {src : List Arg} {f : Nat} {Q : VK} (S : StI K F H O σ ρ) (rr : RepRs K H0 F H O σ all rs) (pk : Pick K all src out) (t : Stp F0 H0 O0 F H O) (p : Pin ρ0 ρ) (w : WantE K xr W σ F0 H0 O0 ρ0 (callR cx f rs src ρ) Q) :
    SpMi K xr (cx.φ f) out H Q (WE W σ) := by
  unfold callR at w
  cases ea : argsOf ρ rs src with
  | none => rw [ea] at w; exact w.elim
  | some ms =>
    rw [ea] at w
    dsimp only at w
    split at w
    · rename_i hnd
      have hh := handed S rr ea pk
      refine ⟨F, Lent σ (ownsOf ρ rs src), ms, arg_ok S hnd.1 hh, ?_⟩
      cases ef : cx.φ f ms with
      | no => rw [ef] at w; exact w.elim
      | ret m fin =>
        rw [ef] at w
        dsimp only at w
        split at w
        · rename_i kd
          intro F3 H3 v C fo ro
          obtain ⟨S3, t3, p3⟩ := back_ok S hnd.1 hh kd C fo
          exact w F3 H3 O v S3 (t.trans t3) (p.trans p3) (res_ok S (fun a e => t.none e) ro)
        · exact w.elim
      | ex x fin =>
        rw [ef] at w
        dsimp only at w
        split at w
        · rename_i kd
          intro F3 H3 cls d C fo ro
          obtain ⟨S3, t3, p3⟩ := back_ok S hnd.1 hh kd C fo
          exact w F3 H3 O cls d S3 (t.trans t3) (p.trans p3) ro
        · exact w.elim
    · exact w.elim
def tCallX (sp : Sp) (W : WX) (t : TA) : TE := fun σ H Q => t σ H fun vs H1 => sp vs H1 Q (WE W σ)
theorem pe_callX {k : Nat} {f : Addr} {sp : Sp} {x : Str} {p pos : Pos} {e : Expr} {es : List Expr} {t : TA} (hG : FnRG X.prog X.w X.K X.mg X.base k f sp) (ga : X.A.guards = some []) (hr : Room k X.A) (hg : Gl X x) (hm : X.mg x = some (.ref f)) (hk : PySem.W.keepIn X.K (.ref f) = true) (tk : Takes X W)
    (ha : PA X (e :: es) t) (hne : noStar e = true) (hdb : (x == ("__debug__" : Str)) = false) : PE X (.Call (.Name x p) (e :: es) [] pos) (tCallX sp W t) := by
  constructor
  intro pins s σ H Q I h
  apply wpAny_Call_Name_kw
  refine ld_glob I hg hm ?_ hdb
  have go : ∀ {us : List Value} {s1 : Shared} {vs : List V} {H1 : Hp}, Inv X pins σ H1 s1 → Vals vs us → sp vs H1 Q (WE W σ) → wpAny (model X.prog X.w) X.A (call (.ref f) us) (EP X pins σ Q) X.xe s1 := fun {us s1 vs H1} I1 r q => by
    refine wpAny_call (codeAny_mono (hG _ _ s1 H1 us vs Q (WE W σ) ga hr I1.env0 r q) fun res s' hq => ?_)
    match res, hq with
    | .error e, hq => exact passAt tk σ pins H1 s1 e s' I1 hq
    | .ok (.ret u), hq => exact I1.after hq
  cases hst : (backTo pos (starEach es X.env)).any (·.1) with
  | true => exact PySem.W.callWith_S2 (h₀ := X.base) I.ok.mod.kin hk (thn (ha.run pos pins s σ H _ I h) fun us s1 ⟨vs, H1, I1, r, q⟩ => ⟨I1.kIn, go I1 r q⟩) (star_one hne _ _) hst
  | false => exact PySem.W.callWith_K (h₀ := X.base) I.ok.mod.kin hk (thn (ha.run pos pins s σ H _ I h) fun us s1 ⟨vs, H1, I1, r, q⟩ => ⟨I1.kIn, go I1 r q⟩) (star_one hne _ _) hst
/-! ### the values, the star's last -/
def evSt (cx : Cxt) (st : Option Ex) (ρ : MI.Env) : Out (List R) := match st with
  | none => .ok [] ρ
  | some e => ((evE cx e ρ).bind MI.frz).bind starD
def evRx (cx : Cxt) : List Ex → Option Ex → List Bool → MI.Env → Out (List R)
  | [], st, _, ρ => evSt cx st ρ
  | e :: es, st, refs, ρ => ((evE cx e ρ).bind (R.pass (refs.headD true))).bind fun r ρ => (evRx cx es st refs.tail ρ).bind fun rs ρ => .ok (r :: rs) ρ
theorem evRx_eq (cx : Cxt) : ∀ (es : List Ex) (st : Option Ex) (refs : List Bool) (ρ : MI.Env), evRx cx es st refs ρ = (evRs cx es refs ρ).bind fun rs ρ => (evSt cx st ρ).bind fun ss ρ => .ok (rs ++ ss) ρ
  | [], st, refs, ρ => by
    simp only [evRx, evRs, Out.bind, List.nil_append]
    cases evSt cx st ρ <;> rfl
  | e :: es, st, refs, ρ => by
    simp only [evRx, evRs]
    cases (evE cx e ρ).bind (R.pass (refs.headD true)) with
    | ex z ρ1 => rfl
    | no => rfl
    | ok r ρ1 =>
      show (evRx cx es st refs.tail ρ1).bind _ = ((evRs cx es refs.tail ρ1).bind _).bind _
      rw [evRx_eq cx es st refs.tail ρ1]
      cases evRs cx es refs.tail ρ1 with
      | ex z ρ2 => rfl
      | no => rfl
      | ok rs ρ2 =>
        show ((evSt cx st ρ2).bind _).bind _ = (evSt cx st ρ2).bind _
        cases evSt cx st ρ2 <;> rfl
theorem evE_callS (cx : Cxt) (f m : Nat) (es : List Ex) (st : Option Ex) (refs : List Bool) (ρ : MI.Env) : evE cx (.callS f es st refs m) ρ = (evRx cx es st refs ρ).bind fun rs ρ => starR cx f m rs ρ := by
  rw [evRx_eq, bindA]
  simp only [evE]
  congr 1
  funext rs ρ1
  cases st with
  | none => simp [evSt, Out.bind]
  | some e =>
    show ((evSt cx (some e) ρ1)).bind _ = ((evSt cx (some e) ρ1).bind _).bind _
    rw [bindA]
    rfl
structure PDx (X : Cx) (xr : XRep) (W : WX) (es : List Expr) (ev : Env → Out (List R)) : Prop where
  run : ∃ t : TA, PA X es t ∧ RunR X xr W t ev
theorem rep_vals {H0 : Hp} : ∀ {vs : List V} {ds : List D}, Dats K F H vs ds → RepRs K H0 F H O σ vs (ds.map .val)
  | _, _, .nil => .nil
  | _, _, .cons a b => .cons a (rep_vals b)
theorem pdx_nil {refs : List Bool} : PDx X xr W [] (evRx cx [] none refs) := ⟨_, pa_nil, fun F H O σ ρ Q S w => by
  simp only [evRx, evSt] at w
  exact w F H O _ S .refl (.refl _) .nil⟩
theorem pdx_star {e : Expr} {x : Ex} {refs : List Bool} {p : Pos} (h : PD X xr W e (evE cx x)) : PDx X xr W [.Starred e p] (evRx cx [] (some x) refs) := by
  obtain ⟨te, pe, ke⟩ := h.frz.run
  refine ⟨_, StX.pa_star pe pa_nil, fun F H O σ ρ Q S w => ?_⟩
  simp only [evRx, evSt] at w
  refine ke F H O σ ρ _ S (WantG.seq .refl (.refl _) w fun d ρ1 F1 H1 O1 v S1 _ t1 p1 r1 w1 => ?_)
  unfold starD at w1
  cases d with
  | list ds =>
    obtain ⟨a, vs, rfl, ha, hd⟩ := Dat1.lst (.sh r1)
    exact ⟨a, vs, rfl, .inr (SqL.of ha), w1 F1 H1 O1 _ S1 t1 p1 (by rw [List.append_nil]; exact rep_vals hd)⟩
  | tuple ds =>
    obtain ⟨a, vs, rfl, ha, hd⟩ := Dat1.tup (.sh r1)
    exact ⟨a, vs, rfl, .inl ha, w1 F1 H1 O1 _ S1 t1 p1 (by rw [List.append_nil]; exact rep_vals hd)⟩
  | _ => exact w1.elim
theorem pdx_cons {e : Expr} {es : List Expr} {x : Ex} {xs : List Ex} {st : Option Ex} {refs : List Bool} (hs : noStar e = true) (ha : PD X xr W e (evE cx x)) (hb : PDx X xr W es (evRx cx xs st refs.tail)) : PDx X xr W (e :: es) (evRx cx (x :: xs) st refs) := by
  obtain ⟨ta, pa, ka⟩ := ha.run
  obtain ⟨tb, pb, kb⟩ := hb.run
  refine ⟨_, pa_cons pa pb (star_one hs _ _), fun F H O σ ρ Q S w => ?_⟩
  simp only [evRx] at w
  rw [bindA] at w
  refine ka F H O σ ρ _ S (WantG.seq .refl (.refl _) w fun r ρ1 F1 H1 O1 v S1 _ t1 p1 r1 w => ?_)
  cases e : R.pass (refs.headD true) r ρ1 with
  | no => rw [e] at w; exact w.elim
  | ex z ρ2 => exact (pass_ex e).elim
  | ok r2 ρ2 =>
    rw [e] at w
    obtain ⟨F2, O2, S2, rr, p2, f1, f2, f3⟩ := pass_ok S1 r1 e
    have t2 := stp_pass t1 f1 f2 f3
    have w' : WantG X.K xr W (fun F' H' O' vs rs => RepRs X.K H F' H' O' σ vs rs) σ F H O ρ ((evRx cx xs st refs.tail ρ2).bind fun rs ρ => .ok (r2 :: rs) ρ) Q := w
    refine kb F2 H1 O2 σ ρ2 _ S2 (WantG.seq t2 (p1.trans p2) w' fun rs ρ3 F3 H3 O3 vs S3 t23 t3 p3 r3 w => ?_)
    exact w F3 H3 O3 _ S3 t3 p3 (.cons (rr.stp S2 t23) (r3.from fun a e => t2.none e))
theorem RepRs.take {H0 : Hp} : ∀ {vs : List V} {rs : List R} (n : Nat), RepRs K H0 F H O σ vs rs → RepRs K H0 F H O σ (vs.take n) (rs.take n)
  | _, _, 0, _ => by simpa using RepRs.nil
  | _, _, n + 1, .nil => by simpa using RepRs.nil
  | _, _, n + 1, .cons a b => .cons a (RepRs.take n b)
theorem RepRs.vals {H0 : Hp} : ∀ {vs : List V} {rs : List R} {ds : List D}, RepRs K H0 F H O σ vs rs → valsOf rs = some ds → Dats K F H vs ds
  | _, _, _, .nil, h => by
    simp only [valsOf] at h
    cases h
    exact .nil
  | _, _, _, .cons (r := r) a b, h => by
    cases r with
    | val d =>
      simp only [valsOf, Option.map_eq_some_iff] at h
      obtain ⟨ds', h, rfl⟩ := h
      exact .cons a (RepRs.vals b h)
    | _ => cases h
theorem RepRs.drop {H0 : Hp} : ∀ {vs : List V} {rs : List R} (n : Nat), RepRs K H0 F H O σ vs rs → RepRs K H0 F H O σ (vs.drop n) (rs.drop n)
  | _, _, 0, h => by simpa using h
  | _, _, n + 1, .nil => by simpa using RepRs.nil
  | _, _, n + 1, .cons a b => by simpa using RepRs.drop n b
theorem pick_to {all : List V} : Pick K all (srcTo all.length) all := by
  have key : ∀ (pre out : List V), Pick K (pre ++ out) ((List.range' pre.length out.length).map .e) out := by
    intro pre out
    induction out generalizing pre with
    | nil => exact .nil
    | cons v out ih =>
      have := ih (pre ++ [v])
      rw [List.append_assoc, List.length_append] at this
      exact .e (by simp) this
  have := key [] all
  unfold srcTo
  rw [List.range_eq_range']
  exact this
theorem star_run {f m : Nat} {t : TA} {xs : List Ex} {st : Option Ex} {refs : List Bool} (ka : RunR X xr W t (evRx cx xs st refs)) : RunE X xr W (tCallX (SpStar X.K xr (cx.φ f) m) W t) (evE cx (.callS f xs st refs m)) := by
  intro F H O σ ρ Q S w
  rw [evE_callS] at w
  refine ka F H O σ ρ _ S (WantG.seq .refl (.refl _) w fun rs ρ1 F1 H1 O1 vs S1 _ t1 p1 r1 w1 => ?_)
  unfold starR at w1
  split at w1
  · rename_i ds hds
    split at w1
    · rename_i hc
      obtain ⟨hm, hz⟩ := hc
      have dd : Dats X.K F1 H1 (vs.drop m) ds := (r1.drop m).vals hds
      have lv : vs.length = rs.length := r1.length
      refine ⟨vs.take m, vs.drop m, (List.take_append_drop m vs).symm, by rw [List.length_take]; omega, by rw [dd.length]; simpa [lim_eq] using hz, fun p hp => ?_⟩
      obtain ⟨F2, S2, t2, q2⟩ := (NewR.tup (p := p) hp dd).use S1
      have rr : RepRs X.K H F2 (upd H1 p (.tup (vs.drop m))) O1 σ (vs.take m ++ [V.ref p]) (rs.take m ++ [.val (.tuple ds)]) := RepRs.append ((r1.take m).stp S1 t2) (.cons (q2.from fun a e => t1.none e) .nil)
      have lo : (vs.take m ++ [V.ref p]).length = m + 1 := by simp [List.length_take]; omega
      exact callR_ok S2 rr (by rw [← lo]; exact pick_to) (t1.trans t2) p1 w1
    · exact w1.elim
  · exact w1.elim
end
end MI
namespace MI
open PySem PySem.Spec PyProof.Rows L2
/-! ### the same data -/
mutual
def eqD : D → D → Bool
  | .none, .none => true
  | .bool a, .bool b => a == b
  | .int a, .int b => a == b
  | .str a, .str b => a == b
  | .list xs, .list ys => eqDs xs ys
  | .tuple xs, .tuple ys => eqDs xs ys
  | _, _ => false
def eqDs : List D → List D → Bool
  | [], [] => true
  | x :: xs, y :: ys => eqD x y && eqDs xs ys
  | _, _ => false
end
mutual
theorem eqD_ok : ∀ (x y : D), eqD x y = true → x = y
  | .none, y, h => by cases y <;> first | rfl | (simp [eqD] at h)
  | .bool a, y, h => by cases y <;> simp [eqD] at h; rw [h]
  | .int a, y, h => by cases y <;> simp [eqD] at h; rw [h]
  | .str a, y, h => by cases y <;> simp [eqD] at h; rw [h]
  | .list xs, y, h => by cases y <;> simp [eqD] at h; rw [eqDs_ok xs _ h]
  | .tuple xs, y, h => by cases y <;> simp [eqD] at h; rw [eqDs_ok xs _ h]
  | .dict xs, y, h => by cases y <;> simp [eqD] at h
theorem eqDs_ok : ∀ (x y : List D), eqDs x y = true → x = y
  | [], y, h => by cases y <;> first | rfl | (simp [eqDs] at h)
  | x :: xs, y, h => by
    cases y with
    | nil => simp [eqDs] at h
    | cons y ys =>
      have h' : eqD x y = true ∧ eqDs xs ys = true := by simpa [eqDs] using h
      rw [eqD_ok x y h'.1, eqDs_ok xs ys h'.2]
end
def eqA : Arg → Arg → Bool
  | .e k, .e j => k == j
  | .d x, .d y => eqD x y
  | _, _ => false
def eqAs : List Arg → List Arg → Bool
  | [], [] => true
  | x :: xs, y :: ys => eqA x y && eqAs xs ys
  | _, _ => false
theorem eqA_ok {a b : Arg} (h : eqA a b = true) : a = b := by
  cases a <;> cases b <;> simp [eqA] at h
  · rw [h]
  · rw [eqD_ok _ _ h]
theorem eqAs_ok : ∀ {x y : List Arg}, eqAs x y = true → x = y
  | [], y, h => by cases y <;> first | rfl | (simp [eqAs] at h)
  | x :: xs, y, h => by
    cases y with
    | nil => simp [eqAs] at h
    | cons y ys =>
      have h' : eqA x y = true ∧ eqAs xs ys = true := by simpa [eqAs] using h
      rw [eqA_ok h'.1, eqAs_ok h'.2]
/-! ### what is known of the text around -/
structure Shape where
  n : Nat
  ks : List Str
  src : List Arg
structure Sig where
  name : Str
  ps : List Str
  shapes : List Shape
  star : Bool
structure Gi where
  sigs : List Sig
  consts : List (String × D)
  lots : List LotG
structure SC where
  N : List Str
  sc : Scope
  fn : Str → Bool
def noBs : List Str := ["len", "abs", "any", "all", "max", "min", "sum", "sorted", "int", "str", "list", "tuple", "bool", "dict", "isinstance", "repr", "range", "enumerate", "zip", "set"]
structure FnInfo (X : Cx) (xr : XRep) (k : Nat) (φ : List M → FOut) (sg : Sig) : Prop where
  ex : ∃ (f : Addr) (fd : FuncData), FnG X.prog X.w X.K X.mg X.base k f fd sg.ps (SpMi X.K xr φ) ∧ X.mg sg.name = some (.ref f) ∧ PySem.W.keepIn X.K (.ref f) = true ∧
    ∀ sh ∈ sg.shapes, ∃ g gV, KBn X.K fd sg.ps sh.n sh.ks g gV ∧ ∀ vs zs : List V, vs.length = sh.n → zs.length = sh.ks.length → Pick X.K (vs ++ zs) sh.src (gV vs zs)
structure FnStar (X : Cx) (xr : XRep) (k : Nat) (φ : List M → FOut) (sg : Sig) : Prop where
  ex : ∃ f : Addr, FnRG X.prog X.w X.K X.mg X.base k f (SpStar X.K xr φ (sg.ps.length - 1)) ∧ X.mg sg.name = some (.ref f) ∧ PySem.W.keepIn X.K (.ref f) = true
structure Sup (gi : Gi) (X : Cx) (xr : XRep) (k : Nat) (cx : Cxt) : Prop where
  room : Room k X.A
  gd : X.A.guards = some []
  calm : X.calm = true
  nd : X.N.Nodup
  noB : ∀ n ∈ noBs, X.mg n = none
  glo : ∀ p ∈ gi.consts, ∃ v u, X.mg (Str.ofString p.1) = some u ∧ RelV v u ∧ ∀ F H, Dat X.K F H v p.2
  fns : ∀ i sg, gi.sigs[i]? = some sg → FnInfo X xr k (cx.φ i) sg
  stars : ∀ i sg, gi.sigs[i]? = some sg → sg.star = true → FnStar X xr k (cx.φ i) sg
  sys : SysOk X.K
  lots : ∀ q ∈ gi.lots, ∃ i, k = i + 2 ∧ LotFn X (i + 1) q ∧ LotM X (i + 1) q ∧ LotZ X (i + 1) q ∧ LotL X (i + 1) q
structure Ct (gi : Gi) (X : Cx) (xr : XRep) (k : Nat) (cx : Cxt) (s : SC) : Prop where
  sup : Sup gi X xr k cx
  N : X.N = s.N
  sc : X.env.scope = s.sc
  fn : X.fn = s.fn
def SC.blk (s : SC) (scope : Scope) : SC := ⟨s.N, relS scope s.sc, fun x => scope.names.lookup x == some .cell⟩
theorem Ct.blk {gi : Gi} {X : Cx} {xr : XRep} {k : Nat} {cx : Cxt} {s : SC} (c : Ct gi X xr k cx s) (scope : Scope) (s0 : Shared) (H : Hp) (C : Addr) (cl : List (Str × Addr)) (fp : List Addr) : Ct gi (X.blk s0 H scope (compEnvC scope cl C X.env) fp) xr k cx (s.blk scope) := by
  refine ⟨⟨c.sup.room, c.sup.gd, c.sup.calm, c.sup.nd, c.sup.noB, c.sup.glo, fun i sg h => ⟨(c.sup.fns i sg h).ex⟩, fun i sg h hs => ⟨(c.sup.stars i sg h hs).ex⟩, c.sup.sys, fun q hq => by
    obtain ⟨i, e, h⟩ := c.sup.lots q hq
    exact ⟨i, e, ⟨h.1.ex⟩, ⟨h.2.1.ex⟩, ⟨h.2.2.1.ex⟩, ⟨h.2.2.2.ex⟩⟩⟩, c.N, ?_, rfl⟩
  show relabel scope X.env = relS scope s.sc
  rw [← c.sc]
  rfl
theorem takes0 {X : Cx} {s0 : Shared} {H : Hp} {scope : Scope} {env : PySem.Env} {fp : List Addr} : Takes (X.blk s0 H scope env fp) W0 := fun u s' ⟨a, B, sI, pins, σ, H, cls, d, e, I, nb, up, sky, na, os, ag, w⟩ => w
/-! ### names -/
def glB (s : SC) (n : Str) : Bool := s.sc.names.lookup n == some .globalImplicit && !(n == ("__debug__" : Str))
def visB (s : SC) (i : Nat) (n : Str) : Bool := s.N[i]? == some n && (match s.sc.names.lookup n with | some .local => true | some .cell => true | some .free => true | _ => false) && !(n == ("__debug__" : Str)) && !(n == ("__classdict__" : Str))
def locB (s : SC) (i : Nat) (n : Str) : Bool := s.N[i]? == some n && (match s.sc.names.lookup n with | some .local => true | some .cell => s.fn n | _ => false)
section
variable {gi : Gi} {X : Cx} {xr : XRep} {k : Nat} {cx : Cxt} {s : SC}
theorem glB_ok {n : Str} (c : Ct gi X xr k cx s) (h : glB s n = true) : Gl X n ∧ (n == ("__debug__" : Str)) = false := by
  unfold glB at h
  rw [Bool.and_eq_true] at h
  refine ⟨?_, by simpa using h.2⟩
  show X.env.scope.names.lookup n = _
  rw [c.sc]
  simpa using h.1
theorem visB_ok {i : Nat} {n : Str} (c : Ct gi X xr k cx s) (h : visB s i n = true) : X.N[i]? = some n ∧ Vis X.env.scope n ∧ (n == ("__debug__" : Str)) = false ∧ (n == ("__classdict__" : Str)) = false := by
  unfold visB at h
  simp only [Bool.and_eq_true, beq_iff_eq, Bool.not_eq_true'] at h
  obtain ⟨⟨⟨h1, h2⟩, h3⟩, h4⟩ := h
  refine ⟨by rw [c.N]; exact h1, ?_, h3, h4⟩
  unfold Vis
  rw [c.sc]
  split at h2 <;> first | (exact .inl (by assumption)) | (exact .inr (.inl (by assumption))) | (exact .inr (.inr (by assumption))) | cases h2
theorem locB_ok {i : Nat} {n : Str} (c : Ct gi X xr k cx s) (h : locB s i n = true) : X.N[i]? = some n ∧ L2.Loc X.env.scope n ∧ (X.fn n = true ∨ X.env.scope.names.lookup n = some .local) := by
  unfold locB at h
  simp only [Bool.and_eq_true, beq_iff_eq] at h
  obtain ⟨h1, h2⟩ := h
  refine ⟨by rw [c.N]; exact h1, ?_⟩
  unfold L2.Loc
  rw [c.sc, c.fn]
  split at h2
  · rename_i q; exact ⟨.inl q, .inr q⟩
  · rename_i q; exact ⟨.inr q, .inl h2⟩
  · cases h2
end
end MI
namespace MI
open PySem PySem.Spec PyProof.Rows L2
/-- a truth by the value: no and, or, not, comparison, if-else -/
def valT : Expr → Bool
  | .UnaryOp _ _ _ => false
  | .BoolOp _ _ _ => false
  | .IfExp _ _ _ _ => false
  | .Compare _ _ _ _ => false
  | _ => true
theorem valT_ok {e : Expr} (h : valT e = true) (env : PySem.Env) : ∀ whole, isTrue e env whole = (do let v ← whole; standAt e.pos; holding [v] (truthy v)) := by
  intro w
  cases e <;> first | rfl | cases h
def noSet : Expr → Bool
  | .Set _ _ _ => false
  | _ => true
theorem noSet_ok {e : Expr} (h : noSet e = true) (env : PySem.Env) : ∀ x, foldedSetIterable e env x = pure x := by
  intro x
  cases e <;> first | rfl | cases h
/-- the right side: no comprehension -/
def plainV : Expr → Bool
  | .ListComp _ _ _ _ => false
  | .SetComp _ _ _ _ => false
  | .DictComp _ _ _ _ _ => false
  | _ => true
def noTup : Expr → Bool
  | .Tuple _ _ _ => false
  | _ => true
theorem sw_plain {e : Expr} (h : plainV e = true) (t : Option Expr) (l : Nat) (env : PySem.Env) : swapsWith e t l env = pure false := by
  cases e <;> first | rfl | cases h
theorem sws_plain {e : Expr} (h : plainV e = true) (t : Expr) (l : Nat) (env : PySem.Env) : swapsWithSole [t] e l env = pure false := sw_plain h _ _ _
theorem st_sub {o i : Expr} {p : Pos} (e : Expr) (env : PySem.Env) : swappedStores [.Subscript o i p] e env = pure none := by
  cases e <;> rfl
theorem st_tup {es : List Expr} {k : Nat} {p : Pos} {e : Expr} (h : noTup e = true) (env : PySem.Env) : swappedStores [.Tuple es k p] e env = pure none := by
  cases e <;> first | rfl | cases h
def swB (s : SC) (y : Str) (p cpos : Pos) (scope : Scope) : Bool := (match s.sc.kind with | .function => true | _ => false) && s.sc.names.lookup y == some .local && p.line == cpos.line && !(scope.names.any fun (n, k) => n == y && (k == .local || k == .cell))
theorem sw_comp {elt : Expr} {gens : List Comprehension} {scope : Scope} {cpos p : Pos} {y : Str} {l : Nat} {env : PySem.Env} {s : SC} (hs : env.scope = s.sc) (h : swB s y p cpos scope = true) : swapsWith (.ListComp elt gens scope cpos) (some (.Name y p)) l env = pure true := by
  unfold swB at h
  simp only [Bool.and_eq_true] at h
  obtain ⟨⟨⟨h1, h2⟩, h3⟩, h4⟩ := h
  have hk : env.scope.kind = .function := by
    rw [hs]
    split at h1
    · assumption
    · cases h1
  show (pure (env.blockKind == .function && env.kindOf y == some .local && p.line == cpos.line && !(scope.names.any fun (n, k) => n == y && (k == .local || k == .cell))) : Sem Bool) = pure true
  have e1 : (env.blockKind == .function) = true := by
    unfold PySem.Env.blockKind
    rw [hk]
    rfl
  have e2 : (env.kindOf y == some .local) = true := by
    show (env.scope.names.lookup y == some .local) = true
    rw [hs]
    exact h2
  rw [e1, e2, h3, h4]
  rfl
def isFn (s : SC) : Bool := (match s.sc.kind with | .function => true | _ => false)
theorem sw_compN {elt : Expr} {gens : List Comprehension} {scope : Scope} {cpos p : Pos} {y : Str} {l : Nat} {env : PySem.Env} {s : SC} (hs : env.scope = s.sc) (hf : isFn s = true) (h : swB s y p cpos scope = false) : swapsWith (.ListComp elt gens scope cpos) (some (.Name y p)) l env = pure false := by
  show (pure (env.blockKind == .function && env.kindOf y == some .local && p.line == cpos.line && !(scope.names.any fun (n, k) => n == y && (k == .local || k == .cell))) : Sem Bool) = pure false
  have e : (env.blockKind == .function && env.kindOf y == some .local && p.line == cpos.line && !(scope.names.any fun (n, k) => n == y && (k == .local || k == .cell))) = swB s y p cpos scope := by
    have hk : env.scope.kind = .function := by
      unfold isFn at hf
      rw [hs]
      split at hf
      · assumption
      · cases hf
    have e1 : (env.blockKind == .function) = true := by
      unfold PySem.Env.blockKind
      rw [hk]
      rfl
    unfold isFn at hf
    unfold swB
    rw [e1, hf, ← hs]
    rfl
  rw [e, h]
/-! ### targets -/
mutual
def chG (s : SC) (t : Tg) (e : Expr) : Bool := match t with
  | .name i => (match e with
    | .Name n _ => locB s i n
    | _ => false)
  | .tup ts => (match e with
    | .Tuple es _ _ => es.all noStar && decide (es.length = ts.length) && chGs s ts es
    | _ => false)
def chGs (s : SC) (ts : List Tg) (es : List Expr) : Bool := match ts with
  | [] => es.isEmpty
  | t :: ts => (match es with
    | [] => false
    | e :: es => chG s t e && chGs s ts es)
end
section
variable {gi : Gi} {X : Cx} {xr : XRep} {k : Nat} {cx : Cxt} {s : SC}
mutual
theorem chG_ok (c : Ct gi X xr k cx s) : ∀ (t : Tg) (e : Expr), chG s t e = true → PG X e (canG X.K t)
  | .name i, e, h => by
    simp only [chG] at h
    split at h
    · obtain ⟨h1, h2, h3⟩ := locB_ok c h
      exact gd_name c.sup.nd h1 h2 h3
    · cases h
  | .tup ts, e, h => by
    simp only [chG] at h
    split at h
    · simp only [Bool.and_eq_true, decide_eq_true_eq] at h
      obtain ⟨⟨h1, h2⟩, h3⟩ := h
      exact gd_tup c.sup.calm (chGs_ok c ts _ h1 h3) h1 h2
    · cases h
theorem chGs_ok (c : Ct gi X xr k cx s) : ∀ (ts : List Tg) (es : List Expr), es.all noStar = true → chGs s ts es = true → PGs X es (canGs X.K ts)
  | [], es, _, h => by
    simp only [chGs] at h
    cases es with
    | nil => exact gds_nil
    | cons e es => cases h
  | t :: ts, es, hs, h => by
    simp only [chGs] at h
    cases es with
    | nil => cases h
    | cons e es =>
      simp only [Bool.and_eq_true] at h
      have hs' : noStar e = true ∧ es.all noStar = true := by simpa using hs
      exact gds_cons (chG_ok c t e h.1) (chGs_ok c ts es hs'.2 h.2) hs'.1
end
end
/-! ### expressions -/
def tyGl (s : SC) (ts : List Ty) : Bool := ts.all fun t => glB s (Str.ofString (tyId t))
def biB (f : Bi) (n : Str) : Bool := (match biId f with
    | some id => n == Str.ofString id
    | none => (match biTy f with
      | some id => n == Str.ofString id
      | none => false))
def kwKeys (kws : List Keyword) : List (Option Str) := kws.map fun k => k.arg
def ownOf (s : SC) (vs : List Nat) : List (Str × Nat) := vs.map fun i => ((s.N[i]?).getD Str.empty, i)
def shapeB (gi : Gi) (f : Nat) (n : Str) (m : Nat) (kws : List Keyword) (src : List Arg) : Bool := match gi.sigs[f]? with
  | some sg => sg.name == n && sg.shapes.any fun sh => sh.n == m && decide (kwKeys kws = sh.ks.map some) && eqAs src sh.src
  | none => false
def starB (gi : Gi) (f : Nat) (n : Str) (m : Nat) : Bool := match gi.sigs[f]? with
  | some sg => sg.name == n && sg.star && decide (sg.ps.length = m + 1)
  | none => false
def lastStar : List Expr → Option (List Expr × Expr)
  | [] => none
  | [.Starred e _] => some ([], e)
  | e :: es => (lastStar es).map fun q => (e :: q.1, q.2)
theorem lastStar_ok : ∀ {es : List Expr} {q : List Expr × Expr}, lastStar es = some q → ∃ p, es = q.1 ++ [.Starred q.2 p]
  | [], q, h => by cases h
  | e :: es, q, h => by
    unfold lastStar at h
    split at h
    · rename_i h2; cases h2
    · rename_i h2
      cases h2
      cases h
      exact ⟨_, rfl⟩
    · rename_i e2 es2 h1 h2
      cases h2
      rw [Option.map_eq_some_iff] at h
      obtain ⟨q2, h3, rfl⟩ := h
      obtain ⟨p, e4⟩ := lastStar_ok h3
      exact ⟨p, by simp [e4]⟩
def isAnd : Ex → Bool
  | .and _ _ => true
  | _ => false
def isOr : Ex → Bool
  | .or _ _ => true
  | _ => false
def lgE : Ex → Bool
  | .and _ _ => true
  | .or _ _ => true
  | .not _ => true
  | .cmp _ _ _ => true
  | .chain _ _ _ _ _ => true
  | .inr _ _ _ => true
  | .eqO _ _ _ _ _ => true
  | .bad => true
  | _ => false
mutual
def chE (gi : Gi) (s : SC) (m : Bool) (x : Ex) (e : Expr) : Bool := (lgE x || !m || valT e) && match x with
  | .var i => (match e with
    | .Name n _ => visB s i n
    | _ => false)
  | .int i => (match e with
    | .Constant (.int j) _ _ => i == j
    | _ => false)
  | .str z => (match e with
    | .Constant (.str j) _ _ => j == Str.ofString z
    | _ => false)
  | .bl b => (match e with
    | .Constant (.bool j) _ _ => b == j
    | _ => false)
  | .non => (match e with
    | .Constant .none _ _ => true
    | _ => false)
  | .tup xs => (match e with
    | .Tuple es _ _ => chDs gi s xs es
    | _ => false)
  | .lst xs => (match e with
    | .List es _ => chDs gi s xs es
    | _ => false)
  | .dct kvs => (match e with
    | .Dict ks vs _ => (kvs.isEmpty && ks.isEmpty && vs.isEmpty) || (!kvs.isEmpty && decide (ks.length ≤ 15) && chKs gi s kvs ks vs)
    | _ => false)
  | .neg a => (match e with
    | .UnaryOp .USub e1 _ => chE gi s false a e1
    | _ => false)
  | .not a => (match e with
    | .UnaryOp .Not e1 _ => chE gi s m a e1
    | _ => false)
  | .bin o a b => (match e with
    | .BinOp e1 p e2 _ => opOk o p && chE gi s false a e1 && chE gi s false b e2
    | _ => false)
  | .cmp o a b => (match e with
    | .Compare e1 [p] [e2] _ => cpOk o p && !(behindInMarks p e2) && chE gi s false a e1 && chE gi s false b e2
    | _ => false)
  | .chain o p a b c => (match e with
    | .Compare e1 [o', p'] [e2, e3] _ => cpOk o o' && cpOk p p' && !(lastMarks [o', p'] [e2, e3]) && chE gi s false a e1 && chE gi s false b e2 && chE gi s false c e3
    | _ => false)
  | .and a b => (match e with
    | .BoolOp .And [e1, e2] _ => chE gi s m a e1 && chE gi s m b e2
    | .BoolOp .And (e1 :: e2 :: e3 :: es) p => chE gi s m a e1 && (!m || isAnd b) && chE gi s m b (.BoolOp .And (e2 :: e3 :: es) p)
    | _ => false)
  | .or a b => (match e with
    | .BoolOp .Or [e1, e2] _ => chE gi s m a e1 && chE gi s m b e2
    | .BoolOp .Or (e1 :: e2 :: e3 :: es) p => chE gi s m a e1 && (!m || isOr b) && chE gi s m b (.BoolOp .Or (e2 :: e3 :: es) p)
    | _ => false)
  | .ite c a b => (match e with
    | .IfExp e1 e2 e3 _ => chE gi s true c e1 && chE gi s false a e2 && chE gi s false b e3
    | _ => false)
  | .idx a i => (match e with
    | .Subscript e1 e2 _ => noSlice e2 && chE gi s false a e1 && chE gi s false i e2
    | _ => false)
  | .sl a lo hi => (match e with
    | .Subscript e1 (.Slice l h none _) _ => chE gi s false a e1 && chO gi s lo l && chO gi s hi h
    | _ => false)
  | .rev a => (match e with
    | .Subscript e1 (.Slice none none (some (.UnaryOp .USub (.Constant (.int 1) _ _) _)) _) _ => chE gi s false a e1
    | _ => false)
  | .isa a ts many => (match e with
    | .Call (.Name n _) [e1, c] [] _ => n == ("isinstance" : Str) && glB s n && noStar e1 && tyGl s ts && chE gi s false a e1 &&
      (if many then (match c with
        | .Tuple es _ _ => tyNms ts es && decide (ts.length ≤ 6)
        | _ => false) else (match ts with
        | [t] => tyNm t c
        | _ => false))
    | _ => false)
  | .bi1 f a => (match e with
    | .Call (.Name n _) [e1] [] _ => (match f with
      | .repr => n == ("repr" : Str)
      | f => biB f n) && glB s n && noStar e1 && chE gi s false a e1
    | _ => false)
  | .bi2 f a b => (match e with
    | .Call (.Name n _) [e1, e2] [] _ => (match f with
      | .max => n == ("max" : Str)
      | .min => n == ("min" : Str)
      | _ => false) && glB s n && noStar e1 && noStar e2 && chE gi s false a e1 && chE gi s false b e2
    | _ => false)
  | .me _ _ _ => false
  | .mu mm i xs => (match e with
    | .Call (.Attribute (.Name y _) nm apos) es [] cpos => nm == muNm mm && visB s i y && (apos.endLine == cpos.line) && es.all noStar && (match xs with
      | [] => es.isEmpty
      | [x] => (match es with
        | [e1] => chE gi s false x e1
        | _ => false)
      | _ => false)
    | _ => false)
  | .call f xs refs src => (match e with
    | .Call (.Name n _) es kws _ => glB s n && es.all noStar && shapeB gi f n es.length kws src && chA gi s xs es kws
    | _ => false)
  | .callB f xs src => (match e with
    | .Call (.Name n _) es [] _ => glB s n && es.all noStar && shapeB gi f n es.length [] src && chA gi s xs es []
    | _ => false)
  | .callS f xs st refs m => (match e with
    | .Call (.Name n _) (e0 :: es) [] _ => glB s n && starB gi f n m && noStar e0 && (match st with
      | none => chDs gi s xs (e0 :: es)
      | some x => (match lastStar es with
        | some q => chDs gi s xs (e0 :: q.1) && chE gi s false x q.2
        | none => false))
    | _ => false)
  | .comp elt tg it cond => (match e with
    | .ListComp e1 [⟨tge, ie, ifs, 0⟩] scope _ => blkC s.N s.sc scope (ownOf s tg.vars) && noSet ie && chG (s.blk scope) tg tge && chI gi s it tge ie && chE gi (s.blk scope) false elt e1 && (match cond with
      | none => ifs.isEmpty
      | some c => (match ifs with
        | [c'] => chE gi (s.blk scope) true c c'
        | _ => false))
    | _ => false)
  | .glo z d => (match e with
    | .Name n _ => n == Str.ofString z && glB s n && gi.consts.any fun p => p.1 == z && eqD d p.2
    | _ => false)
  | .lit it t => (match e with
    | .Call (.Name n _) [.Call (.Name r _) [e1] [] _] [] _ => n == (if t then ("tuple" : Str) else "list") && glB s n && r == ("range" : Str) && glB s r && noStar e1 && (match it with
      | .rng [x] => chE gi s false x e1
      | _ => false)
    | _ => false)
  | .sset x => (match e with
    | .Call (.Name n _) [.Call (.Name r _) [e1] [] _] [] _ => n == ("sorted" : Str) && glB s n && r == ("set" : Str) && glB s r && noStar e1 && chE gi s false x e1
    | _ => false)
  | .lot cn fl x => (match e with
    | .Call (.Name n _) [e1] [] _ => gi.lots.any (fun q => q.cn == cn && q.fl == fl) && n == Str.ofString cn && glB s n && noStar e1 && chE gi s false x e1
    | .Call (.Name n _) [] [] _ => gi.lots.any (fun q => q.cn == cn && q.fl == fl) && n == Str.ofString cn && glB s n && (match x with
      | .tup [] => true
      | _ => false)
    | _ => false)
  | .prop cn fl x => (match e with
    | .Attribute e1 f _ => gi.lots.any (fun q => q.cn == cn && q.fl == fl && f == Str.ofString q.fp) && noSup e1 && chE gi s false x e1
    | _ => false)
  | .isaC cn x => (match e with
    | .Call (.Name n _) [e1, .Name m _] [] _ => gi.lots.any (fun q => q.cn == cn) && n == ("isinstance" : Str) && glB s n && m == Str.ofString cn && glB s m && noStar e1 && chE gi s false x e1
    | _ => false)
  | .fld _ _ _ => false
  | .lenO cn fl x => (match e with
    | .Call (.Name n _) [e1] [] _ => gi.lots.any (fun q => q.cn == cn && q.fl == fl) && n == ("len" : Str) && glB s n && noStar e1 && chE gi s false x e1
    | _ => false)
  | .eqO neg cn fl x y => (match e with
    | .Compare e1 [p] [e2] _ => gi.lots.any (fun q => q.cn == cn && q.fl == fl) && decide (p = if neg then .NotEq else .Eq) && !(behindInMarks p e2) && chE gi s false x e1 && chE gi s false y e2
    | _ => false)
  | .inO _ _ _ _ _ => false
  | .fmt x => (match e with
    | .FormattedValue e1 n none _ => decide (n = -1) && chE gi s false x e1
    | _ => false)
  | .fstr xs => (match e with
    | .JoinedStr (e1 :: e2 :: es) _ => chDs gi s xs (e1 :: e2 :: es)
    | _ => false)
  | .rstr x => (match e with
    | .Call (.Attribute e1 nm apos) [] [] cpos => nm == ("rstrip" : Str) && (apos.endLine == cpos.line) && noSup e1 && chE gi s false x e1
    | _ => false)
  | .lstS xs x => (match e with
    | .List es _ => (match lastStar es with
      | some q => chDs gi s xs q.1 && chE gi s false x q.2
      | none => false)
    | _ => false)
  | .join z x => (match e with
    | .Call (.Attribute (.Constant (.str j) _ _) nm apos) [e1] [] cpos => j == Str.ofString z && nm == ("join" : Str) && (apos.endLine == cpos.line) && noStar e1 && chE gi s false x e1
    | _ => false)
  | .lzip x y => (match e with
    | .Call (.Name n _) [.Call (.Name r _) [e1, e2] [] _] [] _ => n == ("list" : Str) && glB s n && r == ("zip" : Str) && glB s r && noStar e1 && noStar e2 && chE gi s false x e1 && chE gi s false y e2
    | _ => false)
  | .inr neg x ys => (match e with
    | .Compare e1 [p] [.Call (.Name r rp) es [] rpos] _ => decide (p = inOp neg) && !(behindInMarks (inOp neg) (.Call (.Name r rp) es [] rpos)) && r == ("range" : Str) && glB s r && chE gi s false x e1 && (match ys with
      | [y] => (match es with
        | [e2] => noStar e2 && chE gi s false y e2
        | _ => false)
      | [y, z] => (match es with
        | [e2, e3] => noStar e2 && noStar e3 && chE gi s false y e2 && chE gi s false z e3
        | _ => false)
      | _ => false)
    | _ => false)
  | .bad => true
def chO (gi : Gi) (s : SC) (x : Option Ex) (e : Option Expr) : Bool := match x with
  | none => e.isNone
  | some x => (match e with
    | none => false
    | some e => chE gi s false x e)
def chKs (gi : Gi) (s : SC) (xs : List (Ex × Ex)) (ks : List (Option Expr)) (vs : List Expr) : Bool := match xs with
  | [] => ks.isEmpty && vs.isEmpty
  | (x, y) :: xs => (match ks, vs with
    | some k :: ks, v :: vs => chE gi s false x k && chE gi s false y v && chKs gi s xs ks vs
    | _, _ => false)
def chDs (gi : Gi) (s : SC) (xs : List Ex) (es : List Expr) : Bool := match xs with
  | [] => es.isEmpty
  | x :: xs => (match es with
    | [] => false
    | e :: es => noStar e && chE gi s false x e && chDs gi s xs es)
def chA (gi : Gi) (s : SC) (xs : List Ex) (es : List Expr) (kws : List Keyword) : Bool := match xs with
  | [] => es.isEmpty && kws.isEmpty
  | x :: xs => (match es with
    | e :: es => chE gi s false x e && chA gi s xs es kws
    | [] => (match kws with
      | [] => false
      | ⟨_, e, _⟩ :: kws => chE gi s false x e && chA gi s xs [] kws))
def chI (gi : Gi) (s : SC) (it : It) (tg : Expr) (e : Expr) : Bool := match it with
  | .seq x => chE gi s false x e
  | .rng xs => (match e with
    | .Call (.Name n _) es [] _ => n == ("range" : Str) && glB s n && decide (1 ≤ es.length) && decide (es.length ≤ 3) && chDs gi s xs es
    | _ => false)
  | .enum x => (match e with
    | .Call (.Name n _) [e1] [] _ => n == ("enumerate" : Str) && glB s n && !(noTup tg) && noStar e1 && chE gi s false x e1
    | _ => false)
  | .zip a b => (match e with
    | .Call (.Name n _) [e1, e2] [] _ => n == ("zip" : Str) && glB s n && !(noTup tg) && noStar e1 && noStar e2 && chE gi s false a e1 && chE gi s false b e2
    | _ => false)
end
end MI
namespace MI
open PySem PySem.Spec PyProof.Rows L2
theorem evRs_len (cx : Cxt) : ∀ (xs : List Ex) (refs : List Bool) {ρ ρ' : Env} {rs : List R}, evRs cx xs refs ρ = .ok rs ρ' → rs.length = xs.length
  | [], refs, ρ, ρ', rs, h => by simp only [evRs] at h; cases h; rfl
  | x :: xs, refs, ρ, ρ', rs, h => by
    simp only [evRs] at h
    obtain ⟨r, ρ1, _, h⟩ := out_bind h
    obtain ⟨rs', ρ2, h2, h⟩ := out_bind h
    cases h
    simp [evRs_len cx xs refs.tail h2]
theorem kw_map (pos : Pos) (env : PySem.Env) : ∀ kws : List Keyword, (backToKw pos (keywordEach kws env)).map (·.1) = kwKeys kws
  | [] => rfl
  | ⟨n, v, p⟩ :: kws => by
    show n :: (backToKw pos (keywordEach kws env)).map (·.1) = n :: kwKeys kws
    rw [kw_map pos env kws]
theorem kw_facts {pos : Pos} {env : PySem.Env} {kws : List Keyword} {ks : List Str} (h : kwKeys kws = ks.map some) : (backToKw pos (keywordEach kws env)).all (·.1.isSome) = true ∧ (backToKw pos (keywordEach kws env)).filterMap (·.1) = ks ∧ (backToKw pos (keywordEach kws env)).any (·.1.isNone) = false := by
  have key : ∀ (l : List (Option Str × Sem Value)) (ks : List Str), l.map (·.1) = ks.map some → l.all (·.1.isSome) = true ∧ l.filterMap (·.1) = ks ∧ l.any (·.1.isNone) = false := by
    intro l
    induction l with
    | nil => intro ks h; cases ks <;> first | exact ⟨rfl, rfl, rfl⟩ | cases h
    | cons a l ih =>
      intro ks h
      cases ks with
      | nil => cases h
      | cons y ks =>
        simp only [List.map_cons, List.cons.injEq] at h
        obtain ⟨h1, h2⟩ := h
        obtain ⟨i1, i2, i3⟩ := ih ks h2
        refine ⟨by simp [h1, i1], by simp [h1, i2], by simp [h1, i3]⟩
  exact key _ ks (by rw [kw_map]; exact h)
theorem mem_noB {n : Str} (h : n ∈ noBs) {gi : Gi} {X : Cx} {xr : XRep} {k : Nat} {cx : Cxt} {s : SC} (c : Ct gi X xr k cx s) : X.mg n = none := c.sup.noB n h
theorem ty_noB (t : Ty) : Str.ofString (tyId t) ∈ noBs := by cases t <;> decide +kernel
theorem id_noB {f : Bi} {id : String} (h : biId f = some id ∨ biTy f = some id) : Str.ofString id ∈ noBs := by
  rcases h with h | h <;> cases f <;> first | (cases h; done) | (cases h; decide +kernel)
theorem id_boot {f : Bi} {id : String} (h : biId f = some id) : bootBuiltins (Str.ofString id) = some (.builtin id) ∧ Str.ofString id ≠ "__name__" := by
  cases f <;> first | (cases h; done) | (cases h; exact ⟨by decide +kernel, by decide +kernel⟩)
theorem ty_boot2 {f : Bi} {id : String} (h : biTy f = some id) : bootBuiltins (Str.ofString id) = some (.type id) ∧ Str.ofString id ≠ "__name__" := by
  cases f <;> first | (cases h; done) | (cases h; exact ⟨by decide +kernel, by decide +kernel⟩)
section
variable {gi : Gi} {xr : XRep} {k : Nat} {cx : Cxt}
theorem bi1_ok {X : Cx} {W : WX} {s : SC} {f : Bi} {n : Str} {a : Expr} {x : Ex} {p pos : Pos} (c : Ct gi X xr k cx s) (hn : biB f n = true) (hg : glB s n = true) (hs : noStar a = true) (ha : PD X xr W a (evE cx x)) : PD X xr W (.Call (.Name n p) [a] [] pos) (evE cx (.bi1 f x)) := by
  obtain ⟨g1, g2⟩ := glB_ok c hg
  unfold biB at hn
  split at hn
  · rename_i id h
    have : n = Str.ofString id := by simpa using hn
    subst this
    exact pd_bi1 c.sup.room c.sup.calm h g1 (c.sup.noB _ (id_noB (.inl h))) (id_boot h).1 (id_boot h).2 g2 hs ha
  · split at hn
    · rename_i id h
      have : n = Str.ofString id := by simpa using hn
      subst this
      exact pd_ty1 h g1 (c.sup.noB _ (id_noB (.inr h))) (ty_boot2 h).1 (ty_boot2 h).2 g2 hs ha
    · cases hn
theorem own_ix {X : Cx} {s : SC} : ∀ vs : List Nat, (ownOf s vs).map (·.2) = vs
  | [] => rfl
  | v :: vs => by
    show v :: (ownOf s vs).map (·.2) = v :: vs
    rw [own_ix (X := X) vs]
theorem call_ok {X : Cx} {W : WX} {s : SC} {f : Nat} {n : Str} {es : List Expr} {kws : List Keyword} {xs1 ys : List Ex} {refs : List Bool} {src : List Arg} {p pos : Pos} (c : Ct gi X xr k cx s) (tk : Takes X W) (hg : glB s n = true) (hs : es.all noStar = true) (hsh : shapeB gi f n es.length kws src = true)
    (h1 : xs1.length = es.length) (h2 : ys.length = kws.length) (ha : PDr X xr W es (evRs cx xs1 refs)) (hk : PDk X xr W kws (evRs cx ys (refs.drop xs1.length))) : PD X xr W (.Call (.Name n p) es kws pos) (evE cx (.call f (xs1 ++ ys) refs src)) := by
  obtain ⟨g1, g2⟩ := glB_ok c hg
  unfold shapeB at hsh
  split at hsh
  · rename_i sg hsg
    simp only [Bool.and_eq_true, List.any_eq_true, beq_iff_eq, decide_eq_true_eq] at hsh
    obtain ⟨e1, sh, hm, ⟨e2, e3⟩, e4⟩ := hsh
    obtain ⟨fa, fd, hG, hmg, hkp, hb⟩ := (c.sup.fns f sg hsg).ex
    obtain ⟨g, gV, kb, pick⟩ := hb sh hm
    have e4' := eqAs_ok e4
    subst e4'
    subst e1
    obtain ⟨ta, pa, pn, ka⟩ := ha.run
    obtain ⟨tb, pb, kb2⟩ := hk.run
    obtain ⟨q1, q2, q3⟩ := kw_facts (pos := pos) (env := X.env) e3
    have lks : ys.length = sh.ks.length := by
      have := congrArg List.length e3
      simp [kwKeys] at this
      omega
    have run := call_run (m := sh.ks.length) (n := sh.n) (f := f) (gV := gV) (src := sh.src) ka kb2 (fun h => by rw [evRs_len cx _ _ h, h1, e2]) (fun h => by rw [evRs_len cx _ _ h, lks]) pick
    cases es with
    | nil =>
      have := pn rfl
      subst this
      have e2' : sh.n = 0 := e2
      refine ⟨_, pe_callM0 (n := sh.n) hG c.sup.gd c.sup.room g1 hmg hkp kb tk pb q1 q2 q3 g2, ?_⟩
      exact run
    | cons e es => exact ⟨_, pe_callM hG c.sup.gd c.sup.room g1 hmg hkp kb tk pa pb hs q1 q2 q3 g2, run⟩
  · cases hsh
theorem callB_ok {X : Cx} {W : WX} {s : SC} {f : Nat} {n : Str} {es : List Expr} {xs : List Ex} {src : List Arg} {p pos : Pos} (c : Ct gi X xr k cx s) (tk : Takes X W) (hg : glB s n = true) (hs : es.all noStar = true) (hsh : shapeB gi f n es.length [] src = true)
    (h1 : xs.length = es.length) (ha : PDr X xr W es (evRs cx xs [])) : PD X xr W (.Call (.Name n p) es [] pos) (evE cx (.callB f xs src)) := by
  obtain ⟨g1, g2⟩ := glB_ok c hg
  unfold shapeB at hsh
  split at hsh
  · rename_i sg hsg
    simp only [Bool.and_eq_true, List.any_eq_true, beq_iff_eq, decide_eq_true_eq] at hsh
    obtain ⟨e1, sh, hm, ⟨e2, e3⟩, e4⟩ := hsh
    obtain ⟨fa, fd, hG, hmg, hkp, hb⟩ := (c.sup.fns f sg hsg).ex
    obtain ⟨g, gV, kb, pick⟩ := hb sh hm
    have e4' := eqAs_ok e4
    subst e4'
    subst e1
    obtain ⟨ta, pa, pn, ka⟩ := ha.run
    obtain ⟨tb, pb, kb2⟩ := (pdk_nil (X := X) (xr := xr) (W := W) (cx := cx) (refs := [])).run
    obtain ⟨q1, q2, q3⟩ := kw_facts (pos := pos) (env := X.env) e3
    have lks : sh.ks.length = 0 := by
      have := congrArg List.length e3
      simp [kwKeys] at this
      first | omega | (rw [this]; rfl) | (rw [this])
    have run := callB_run (n := sh.n) (f := f) (gV := gV) (src := sh.src) ka kb2 (fun h => by rw [evRs_len cx _ _ h, h1, e2]) (fun vs zs l1 l2 => pick vs zs l1 (by rw [l2, lks]))
    rw [← lks] at run
    cases es with
    | nil =>
      have := pn rfl
      subst this
      have e2' : sh.n = 0 := e2
      refine ⟨_, pe_callM0 (n := sh.n) hG c.sup.gd c.sup.room g1 hmg hkp kb tk pb q1 q2 q3 g2, ?_⟩
      exact run
    | cons e es => exact ⟨_, pe_callM hG c.sup.gd c.sup.room g1 hmg hkp kb tk pa pb hs q1 q2 q3 g2, run⟩
  · cases hsh
theorem star_ok {X : Cx} {W : WX} {s : SC} {f m : Nat} {n : Str} {e : Expr} {es : List Expr} {xs : List Ex} {st : Option Ex} {refs : List Bool} {p pos : Pos} (c : Ct gi X xr k cx s) (tk : Takes X W) (hg : glB s n = true) (hst : starB gi f n m = true)
    (hx : noStar e = true ∧ PDx X xr W (e :: es) (evRx cx xs st refs)) : PD X xr W (.Call (.Name n p) (e :: es) [] pos) (evE cx (.callS f xs st refs m)) := by
  obtain ⟨g1, g2⟩ := glB_ok c hg
  unfold starB at hst
  split at hst
  · rename_i sg hsg
    simp only [Bool.and_eq_true, beq_iff_eq, decide_eq_true_eq] at hst
    obtain ⟨⟨e1, e2⟩, e3⟩ := hst
    obtain ⟨fa, hG, hmg, hkp⟩ := (c.sup.stars f sg hsg e2).ex
    subst e1
    rw [show sg.ps.length - 1 = m by omega] at hG
    obtain ⟨t, pa, ka⟩ := hx.2.run
    exact ⟨_, pe_callX hG c.sup.gd c.sup.room g1 hmg hkp tk pa hx.1 g2, star_run ka⟩
  · cases hst
end
end MI
namespace MI
open PySem PySem.Spec PyProof.Rows L2
section
variable {gi : Gi} {xr : XRep} {k : Nat} {cx : Cxt}
theorem pdt_of {X : Cx} {W : WX} {e : Expr} {x : Ex} (hx : ∀ ρ, evT cx x ρ = (evE cx x ρ).bind truthR) (hv : valT e = true) (h : PD X xr W e (evE cx x)) : PDt X xr W e (evT cx x) := (pdt_val (valT_ok hv X.env) h).ev fun ρ => (hx ρ).symm
abbrev Res (X : Cx) (xr : XRep) (W : WX) (cx : Cxt) (fl : Bool) (x : Ex) (e : Expr) : Prop := match fl with
  | true => PDt X xr W e (evT cx x) ∧ ((isAnd x || isOr x) = true → PDw X xr W e (evT cx x))
  | false => PD X xr W e (evE cx x)
theorem res_of {X : Cx} {W : WX} {fl : Bool} {e : Expr} {x : Ex} (hx : ∀ ρ, evT cx x ρ = (evE cx x ρ).bind truthR) (hn : (isAnd x || isOr x) = false) (hv : (!fl || valT e) = true) (h : PD X xr W e (evE cx x)) : Res X xr W cx fl x e := by
  cases fl with
  | true => exact ⟨pdt_of hx (by simpa using hv) h, fun z => by rw [hn] at z; cases z⟩
  | false => exact h
mutual
theorem chE_ok : ∀ (x : Ex) {X : Cx} {W : WX} {s : SC} {e : Expr} {fl : Bool}, Ct gi X xr k cx s → Takes X W → chE gi s fl x e = true → Res X xr W cx fl x e
  | .var i, X, W, s, e, fl, c, t, h => by
    simp only [chE, lgE, Bool.false_or] at h
    rw [Bool.and_eq_true] at h
    obtain ⟨hv, h⟩ := h
    refine res_of (fun ρ => by simp only [evT]) rfl hv ?_
    split at h
    · obtain ⟨h1, h2, h3, h4⟩ := visB_ok c h
      exact pd_var h1 h2 h3 h4 cx
    · cases h
  | .int i, X, W, s, e, fl, c, t, h => by
    simp only [chE, lgE, Bool.false_or] at h
    rw [Bool.and_eq_true] at h
    obtain ⟨hv, h⟩ := h
    refine res_of (fun ρ => by simp only [evT]) rfl hv ?_
    split at h
    · have := eq_of_beq h
      subst this
      exact pd_int cx
    · cases h
  | .str z, X, W, s, e, fl, c, t, h => by
    simp only [chE, lgE, Bool.false_or] at h
    rw [Bool.and_eq_true] at h
    obtain ⟨hv, h⟩ := h
    refine res_of (fun ρ => by simp only [evT]) rfl hv ?_
    split at h
    · have := eq_of_beq h
      subst this
      exact pd_str cx
    · cases h
  | .bl b, X, W, s, e, fl, c, t, h => by
    simp only [chE, lgE, Bool.false_or] at h
    rw [Bool.and_eq_true] at h
    obtain ⟨hv, h⟩ := h
    refine res_of (fun ρ => by simp only [evT]) rfl hv ?_
    split at h
    · have := eq_of_beq h
      subst this
      exact pd_bl cx
    · cases h
  | .non, X, W, s, e, fl, c, t, h => by
    simp only [chE, lgE, Bool.false_or] at h
    rw [Bool.and_eq_true] at h
    obtain ⟨hv, h⟩ := h
    refine res_of (fun ρ => by simp only [evT]) rfl hv ?_
    split at h
    · exact pd_non cx
    · cases h
  | .tup xs, X, W, s, e, fl, c, t, h => by
    simp only [chE, lgE, Bool.false_or] at h
    rw [Bool.and_eq_true] at h
    obtain ⟨hv, h⟩ := h
    refine res_of (fun ρ => by simp only [evT]) rfl hv ?_
    split at h
    · exact pd_tup (chDs_ok xs c t h)
    · cases h
  | .lst xs, X, W, s, e, fl, c, t, h => by
    simp only [chE, lgE, Bool.false_or] at h
    rw [Bool.and_eq_true] at h
    obtain ⟨hv, h⟩ := h
    refine res_of (fun ρ => by simp only [evT]) rfl hv ?_
    split at h
    · exact pd_lst (chDs_ok xs c t h)
    · cases h
  | .dct kvs, X, W, s, e, fl, c, t, h => by
    simp only [chE, lgE, Bool.false_or] at h
    rw [Bool.and_eq_true] at h
    obtain ⟨hv, h⟩ := h
    refine res_of (fun ρ => by simp only [evT]) rfl hv ?_
    split at h
    · rename_i ks vs pos
      simp only [Bool.or_eq_true, Bool.and_eq_true, List.isEmpty_iff, decide_eq_true_eq, Bool.not_eq_true'] at h
      rcases h with ⟨⟨rfl, rfl⟩, rfl⟩ | ⟨⟨h0, h15⟩, h⟩
      · exact pd_dct
      · obtain ⟨l1, l2, l3, p⟩ := chKs_ok kvs c t h
        refine pd_dctN l1 l2 (fun e => ?_) h15 (fun e => ?_) p
        · subst e
          rw [List.length_nil] at l3
          cases kvs with
          | nil => cases h0
          | cons a b => cases l3
        · subst e
          cases h0
    · cases h
  | .neg a, X, W, s, e, fl, c, t, h => by
    simp only [chE, lgE, Bool.false_or] at h
    rw [Bool.and_eq_true] at h
    obtain ⟨hv, h⟩ := h
    refine res_of (fun ρ => by simp only [evT]) rfl hv ?_
    split at h
    · exact pd_neg (chE_ok a c t h)
    · cases h
  | .not a, X, W, s, e, fl, c, t, h => by
    simp only [chE, lgE, Bool.true_or, Bool.true_and] at h
    split at h
    · cases fl with
      | true => exact ⟨pdt_not (chE_ok a (fl := true) c t h).1, fun z => by cases z⟩
      | false => exact pd_not (chE_ok a (fl := false) c t h)
    · cases h
  | .bin o a b, X, W, s, e, fl, c, t, h => by
    simp only [chE, lgE, Bool.false_or] at h
    rw [Bool.and_eq_true] at h
    obtain ⟨hv, h⟩ := h
    refine res_of (fun ρ => by simp only [evT]) rfl hv ?_
    split at h
    · simp only [Bool.and_eq_true] at h
      exact pd_bin h.1.1 (chE_ok a c t h.1.2) (chE_ok b c t h.2)
    · cases h
  | .cmp o a b, X, W, s, e, fl, c, t, h => by
    simp only [chE, lgE, Bool.true_or, Bool.true_and] at h
    split at h
    · simp only [Bool.and_eq_true, Bool.not_eq_true'] at h
      have ha := chE_ok a (fl := false) c t h.1.2
      have hb := chE_ok b (fl := false) c t h.2
      cases fl with
      | true => exact ⟨(pdt_cmp c.sup.room h.1.1.1 h.1.1.2 ha hb).ev fun ρ => by simp only [evT], fun z => by cases z⟩
      | false => exact pd_cmp c.sup.room h.1.1.1 h.1.1.2 ha hb
    · cases h
  | .chain o p a b d, X, W, s, e, fl, c, t, h => by
    simp only [chE, lgE, Bool.true_or, Bool.true_and] at h
    split at h
    · simp only [Bool.and_eq_true, Bool.not_eq_true'] at h
      have ha := chE_ok a (fl := false) c t h.1.1.2
      have hb := chE_ok b (fl := false) c t h.1.2
      have hd := chE_ok d (fl := false) c t h.2
      cases fl with
      | true => exact ⟨(pdt_chain c.sup.room h.1.1.1.1.1 h.1.1.1.1.2 h.1.1.1.2 ha hb hd).ev fun ρ => by simp only [evT], fun z => by cases z⟩
      | false => exact pd_chain c.sup.room h.1.1.1.1.1 h.1.1.1.1.2 h.1.1.1.2 ha hb hd
    · cases h
  | .and a b, X, W, s, e, fl, c, t, h => by
    simp only [chE, lgE, Bool.true_or, Bool.true_and] at h
    cases fl with
    | true =>
      have q : PDw X xr W e (evT cx (.and a b)) := by
        split at h
        · simp only [Bool.and_eq_true] at h
          exact pdw_and (chE_ok a (fl := true) c t h.1).1 (pdw_and1 (chE_ok b (fl := true) c t h.2).1)
        · simp only [Bool.and_eq_true, Bool.not_true, Bool.false_or] at h
          exact pdw_and (chE_ok a (fl := true) c t h.1.1).1 ((chE_ok b (fl := true) c t h.2).2 (by simp [h.1.2]))
        · cases h
      exact ⟨q.pt, fun _ => q⟩
    | false =>
      show PD X xr W e _
      split at h
      · simp only [Bool.and_eq_true] at h
        exact pd_and (chE_ok a (fl := false) c t h.1) (pd_one (chE_ok b (fl := false) c t h.2))
      · simp only [Bool.and_eq_true] at h
        exact pd_and (chE_ok a (fl := false) c t h.1.1) (chE_ok b (fl := false) c t h.2)
      · cases h
  | .or a b, X, W, s, e, fl, c, t, h => by
    simp only [chE, lgE, Bool.true_or, Bool.true_and] at h
    cases fl with
    | true =>
      have q : PDw X xr W e (evT cx (.or a b)) := by
        split at h
        · simp only [Bool.and_eq_true] at h
          exact pdw_or (chE_ok a (fl := true) c t h.1).1 (pdw_or1 (chE_ok b (fl := true) c t h.2).1)
        · simp only [Bool.and_eq_true, Bool.not_true, Bool.false_or] at h
          exact pdw_or (chE_ok a (fl := true) c t h.1.1).1 ((chE_ok b (fl := true) c t h.2).2 (by simp [h.1.2]))
        · cases h
      exact ⟨q.pt, fun _ => q⟩
    | false =>
      show PD X xr W e _
      split at h
      · simp only [Bool.and_eq_true] at h
        exact pd_or (chE_ok a (fl := false) c t h.1) (pd_one (chE_ok b (fl := false) c t h.2))
      · simp only [Bool.and_eq_true] at h
        exact pd_or (chE_ok a (fl := false) c t h.1.1) (chE_ok b (fl := false) c t h.2)
      · cases h
  | .ite d a b, X, W, s, e, fl, c, t, h => by
    simp only [chE, lgE, Bool.false_or] at h
    rw [Bool.and_eq_true] at h
    obtain ⟨hv, h⟩ := h
    refine res_of (fun ρ => by simp only [evT]) rfl hv ?_
    split at h
    · simp only [Bool.and_eq_true] at h
      exact pd_ite (chE_ok d (fl := true) c t h.1.1).1 (chE_ok a c t h.1.2) (chE_ok b c t h.2)
    · cases h
  | .idx a i, X, W, s, e, fl, c, t, h => by
    simp only [chE, lgE, Bool.false_or] at h
    rw [Bool.and_eq_true] at h
    obtain ⟨hv, h⟩ := h
    refine res_of (fun ρ => by simp only [evT]) rfl hv ?_
    split at h
    · simp only [Bool.and_eq_true] at h
      exact pd_idx (plain_ix h.1.1) (chE_ok a c t h.1.2) (chE_ok i c t h.2)
    · cases h
  | .sl a lo hi, X, W, s, e, fl, c, t, h => by
    simp only [chE, lgE, Bool.false_or] at h
    rw [Bool.and_eq_true] at h
    obtain ⟨hv, h⟩ := h
    refine res_of (fun ρ => by simp only [evT]) rfl hv ?_
    split at h
    · simp only [Bool.and_eq_true] at h
      exact pd_sl (chE_ok a c t h.1.1) (chO_ok lo c t h.1.2) (chO_ok hi c t h.2)
    · cases h
  | .rev a, X, W, s, e, fl, c, t, h => by
    simp only [chE, lgE, Bool.false_or] at h
    rw [Bool.and_eq_true] at h
    obtain ⟨hv, h⟩ := h
    refine res_of (fun ρ => by simp only [evT]) rfl hv ?_
    split at h
    · exact pd_rev (chE_ok a c t h)
    · cases h
  | .isa a ts many, X, W, s, e, fl, c, t, h => by
    simp only [chE, lgE, Bool.false_or] at h
    rw [Bool.and_eq_true] at h
    obtain ⟨hv, h⟩ := h
    refine res_of (fun ρ => by simp only [evT]) rfl hv ?_
    split at h
    · rename_i n p e1 d p2
      simp only [Bool.and_eq_true, beq_iff_eq] at h
      obtain ⟨⟨⟨⟨⟨h1, h2⟩, h3⟩, h4⟩, h5⟩, h6⟩ := h
      subst h1
      have g := glB_ok c h2
      have gt : ∀ t ∈ ts, Gl X (Str.ofString (tyId t)) ∧ X.mg (Str.ofString (tyId t)) = none := fun t ht => ⟨(glB_ok c (List.all_eq_true.mp h4 t ht)).1, c.sup.noB _ (ty_noB t)⟩
      have nb : X.mg ("isinstance" : Str) = none := c.sup.noB _ (by decide +kernel)
      cases many with
      | true =>
        rw [if_pos rfl] at h6
        split at h6
        · simp only [Bool.and_eq_true, decide_eq_true_eq] at h6
          exact pd_isa2 g.1 nb gt h6.1 h6.2 h3 (chE_ok a c t h5)
        · cases h6
      | false =>
        rw [if_neg (by decide)] at h6
        split at h6
        · rename_i t1
          obtain ⟨k1, k2⟩ := gt t1 (by simp)
          exact pd_isa1 g.1 nb k1 k2 h6 h3 (chE_ok a c t h5)
        · cases h6
    · cases h
  | .bi1 f a, X, W, s, e, fl, c, t, h => by
    simp only [chE, lgE, Bool.false_or] at h
    rw [Bool.and_eq_true] at h
    obtain ⟨hv, h⟩ := h
    refine res_of (fun ρ => by simp only [evT]) rfl hv ?_
    split at h
    · rename_i n p e1 p2
      simp only [Bool.and_eq_true] at h
      obtain ⟨⟨⟨h1, h2⟩, h3⟩, h4⟩ := h
      have ha := chE_ok a c t h4
      split at h1
      · have := eq_of_beq h1
        subst this
        exact pd_repr c.sup.sys c.sup.room c.sup.gd (glB_ok c h2).1 (c.sup.noB _ (by decide +kernel)) h3 ha
      · exact bi1_ok c h1 h2 h3 ha
    · cases h
  | .bi2 f a b, X, W, s, e, fl, c, t, h => by
    simp only [chE, lgE, Bool.false_or] at h
    rw [Bool.and_eq_true] at h
    obtain ⟨hv, h⟩ := h
    refine res_of (fun ρ => by simp only [evT]) rfl hv ?_
    split at h
    · rename_i n p e1 e2 p2
      simp only [Bool.and_eq_true] at h
      obtain ⟨⟨⟨⟨⟨h1, h2⟩, h3⟩, h4⟩, h5⟩, h6⟩ := h
      have ha := chE_ok a c t h5
      have hb := chE_ok b c t h6
      have g := glB_ok c h2
      split at h1
      · have := eq_of_beq h1
        subst this
        exact pd_bi2 c.sup.calm (f := .max) rfl (.inl rfl) g.1 (c.sup.noB _ (by decide +kernel)) (by decide +kernel) (by decide +kernel) g.2 h3 h4 ha hb
      · have := eq_of_beq h1
        subst this
        exact pd_bi2 c.sup.calm (f := .min) rfl (.inr rfl) g.1 (c.sup.noB _ (by decide +kernel)) (by decide +kernel) (by decide +kernel) g.2 h3 h4 ha hb
      · cases h1
    · cases h
  | .me m a es, X, W, s, e, fl, c, t, h => by
    simp only [chE, Bool.and_false] at h
    cases h
  | .mu m i [], X, W, s, e, fl, c, t, h => by
    unfold chE at h
    simp only [lgE, Bool.false_or] at h
    rw [Bool.and_eq_true] at h
    obtain ⟨hv, h⟩ := h
    refine res_of (fun ρ => by simp only [evT]) rfl hv ?_
    split at h
    · rename_i y p nm apos es cpos
      simp only [Bool.and_eq_true] at h
      obtain ⟨⟨⟨⟨h1, h2⟩, h3⟩, h4⟩, h5⟩ := h
      have := eq_of_beq h1
      subst this
      obtain ⟨v1, v2, v3, v4⟩ := visB_ok c h2
      have : es = [] := by simpa using h5
      subst this
      exact pd_mu0 v1 v2 v3 v4 h3
    · cases h
  | .mu m i [x], X, W, s, e, fl, c, t, h => by
    unfold chE at h
    simp only [lgE, Bool.false_or] at h
    rw [Bool.and_eq_true] at h
    obtain ⟨hv, h⟩ := h
    refine res_of (fun ρ => by simp only [evT]) rfl hv ?_
    split at h
    · rename_i y p nm apos es cpos
      simp only [Bool.and_eq_true] at h
      obtain ⟨⟨⟨⟨h1, h2⟩, h3⟩, h4⟩, h5⟩ := h
      have := eq_of_beq h1
      subst this
      obtain ⟨v1, v2, v3, v4⟩ := visB_ok c h2
      split at h5
      · exact pd_mu1 v1 v2 v3 v4 (by simpa using h4) h3 (chE_ok x c t h5)
      · cases h5
    · cases h
  | .mu m i (_ :: _ :: _), X, W, s, e, fl, c, t, h => by
    unfold chE at h
    simp only [lgE, Bool.false_or] at h
    rw [Bool.and_eq_true] at h
    obtain ⟨hv, h⟩ := h
    split at h
    · simp at h
    · cases h
  | .call f xs refs src, X, W, s, e, fl, c, t, h => by
    simp only [chE, lgE, Bool.false_or] at h
    rw [Bool.and_eq_true] at h
    obtain ⟨hv, h⟩ := h
    refine res_of (fun ρ => by simp only [evT]) rfl hv ?_
    split at h
    · simp only [Bool.and_eq_true] at h
      obtain ⟨⟨⟨h1, h2⟩, h3⟩, h4⟩ := h
      obtain ⟨xs1, ys, rfl, l1, l2, ha, hk⟩ := chA_ok xs c t h2 h4
      exact call_ok c t h1 h2 h3 l1 l2 (ha refs) (hk _)
    · cases h
  | .callB f xs src, X, W, s, e, fl, c, t, h => by
    simp only [chE, lgE, Bool.false_or] at h
    rw [Bool.and_eq_true] at h
    obtain ⟨hv, h⟩ := h
    refine res_of (fun ρ => by simp only [evT]) rfl hv ?_
    split at h
    · simp only [Bool.and_eq_true] at h
      obtain ⟨⟨⟨h1, h2⟩, h3⟩, h4⟩ := h
      obtain ⟨xs1, ys, rfl, l1, l2, ha, hk⟩ := chA_ok xs c t h2 h4
      have : ys = [] := List.length_eq_zero_iff.mp l2
      subst this
      rw [List.append_nil]
      exact callB_ok c t h1 h2 h3 l1 (ha [])
    · cases h
  | .callS f xs none refs m, X, W, s, e, fl, c, t, h => by
    unfold chE at h
    simp only [lgE, Bool.false_or] at h
    rw [Bool.and_eq_true] at h
    obtain ⟨hv, h⟩ := h
    refine res_of (fun ρ => by simp only [evT]) rfl hv ?_
    split at h
    · simp only [Bool.and_eq_true] at h
      obtain ⟨⟨⟨h1, h2⟩, h3⟩, h4⟩ := h
      have := chX_ok xs (st := none) (rest := []) (refs := refs) c t h4 fun _ => pdx_nil
      rw [List.append_nil] at this
      exact star_ok c t h1 h2 ⟨h3, this⟩
    · cases h
  | .callS f xs (some x) refs m, X, W, s, e, fl, c, t, h => by
    unfold chE at h
    simp only [lgE, Bool.false_or] at h
    rw [Bool.and_eq_true] at h
    obtain ⟨hv, h⟩ := h
    refine res_of (fun ρ => by simp only [evT]) rfl hv ?_
    split at h
    · simp only [Bool.and_eq_true] at h
      obtain ⟨⟨⟨h1, h2⟩, h3⟩, h4⟩ := h
      split at h4
      · rename_i q hq
        obtain ⟨p, rfl⟩ := lastStar_ok hq
        rw [Bool.and_eq_true] at h4
        exact star_ok c t h1 h2 ⟨h3, chX_ok xs (st := some x) (refs := refs) c t h4.1 fun _ => pdx_star (chE_ok x c t h4.2)⟩
      · cases h4
    · cases h
  | .comp elt tg it none, X, W, s, e, fl, c, t, h => by
    unfold chE at h
    simp only [lgE, Bool.false_or] at h
    rw [Bool.and_eq_true] at h
    obtain ⟨hv, h⟩ := h
    refine res_of (fun ρ => by simp only [evT]) rfl hv ?_
    split at h
    · rename_i e1 tge ie ifs scope pos
      simp only [Bool.and_eq_true] at h
      obtain ⟨⟨⟨⟨⟨h1, h2⟩, h3⟩, h4⟩, h5⟩, h6⟩ := h
      refine pd_comp c.sup.calm c.sup.nd (chI_ok it c t h4) (own := ownOf s tg.vars) (by rw [c.N, c.sc]; exact blkOk_by h1) (own_ix (X := X) _) (fun s0 H C cl fp => chG_ok (c.blk scope s0 H C cl fp) tg tge h3) (fun s0 H C cl fp => ?_) (fun s0 H C cl fp => chE_ok elt (c.blk scope s0 H C cl fp) takes0 h5) (noSet_ok h2 _)
      have : ifs = [] := by simpa using h6
      subst this
      exact pdc_nil
    · cases h
  | .comp elt tg it (some d), X, W, s, e, fl, c, t, h => by
    unfold chE at h
    simp only [lgE, Bool.false_or] at h
    rw [Bool.and_eq_true] at h
    obtain ⟨hv, h⟩ := h
    refine res_of (fun ρ => by simp only [evT]) rfl hv ?_
    split at h
    · rename_i e1 tge ie ifs scope pos
      simp only [Bool.and_eq_true] at h
      obtain ⟨⟨⟨⟨⟨h1, h2⟩, h3⟩, h4⟩, h5⟩, h6⟩ := h
      refine pd_comp c.sup.calm c.sup.nd (chI_ok it c t h4) (own := ownOf s tg.vars) (by rw [c.N, c.sc]; exact blkOk_by h1) (own_ix (X := X) _) (fun s0 H C cl fp => chG_ok (c.blk scope s0 H C cl fp) tg tge h3) (fun s0 H C cl fp => ?_) (fun s0 H C cl fp => chE_ok elt (c.blk scope s0 H C cl fp) takes0 h5) (noSet_ok h2 _)
      split at h6
      · exact pdc_one (chE_ok d (fl := true) (c.blk scope s0 H C cl fp) takes0 h6).1
      · cases h6
    · cases h
  | .glo z d, X, W, s, e, fl, c, t, h => by
    simp only [chE, lgE, Bool.false_or] at h
    rw [Bool.and_eq_true] at h
    obtain ⟨hv, h⟩ := h
    refine res_of (fun ρ => by simp only [evT]) rfl hv ?_
    split at h
    · simp only [Bool.and_eq_true, List.any_eq_true, beq_iff_eq] at h
      obtain ⟨⟨h1, h2⟩, q, hq, h3, h4⟩ := h
      have g := glB_ok c h2
      obtain ⟨v, u, k1, k2, k3⟩ := c.sup.glo q hq
      have := eqD_ok _ _ h4
      subst this h3 h1
      exact pd_glo g.1 k1 k2 g.2 k3
    · cases h
  | .lit (.rng [x]) b, X, W, s, e, fl, c, t, h => by
    unfold chE at h
    simp only [lgE, Bool.false_or] at h
    rw [Bool.and_eq_true] at h
    obtain ⟨hv, h⟩ := h
    refine res_of (fun ρ => by simp only [evT]) rfl hv ?_
    split at h
    · simp only [Bool.and_eq_true, beq_iff_eq] at h
      obtain ⟨⟨⟨⟨⟨h1, h2⟩, h3⟩, h4⟩, h5⟩, h6⟩ := h
      subst h3
      have nb : ∀ {n : Str}, n = (if b then ("tuple" : Str) else "list") → X.mg n = none := fun e => by
        subst e
        cases b
        · exact c.sup.noB _ (by decide +kernel)
        · exact c.sup.noB _ (by decide +kernel)
      exact pd_lit1 c.sup.calm (h1.trans (by cases b <;> rfl)) (glB_ok c h2).1 (nb h1) (glB_ok c h4).1 (c.sup.noB _ (by decide +kernel)) h5 (chE_ok x (fl := false) c t h6)
    · cases h
  | .lit (.rng []) b, X, W, s, e, fl, c, t, h => by
    unfold chE at h
    simp only [lgE, Bool.false_or] at h
    rw [Bool.and_eq_true] at h
    obtain ⟨hv, h⟩ := h
    split at h
    · simp at h
    · cases h
  | .lit (.rng (_ :: _ :: _)) b, X, W, s, e, fl, c, t, h => by
    unfold chE at h
    simp only [lgE, Bool.false_or] at h
    rw [Bool.and_eq_true] at h
    obtain ⟨hv, h⟩ := h
    split at h
    · simp at h
    · cases h
  | .lit (.seq _) b, X, W, s, e, fl, c, t, h => by
    unfold chE at h
    simp only [lgE, Bool.false_or] at h
    rw [Bool.and_eq_true] at h
    obtain ⟨hv, h⟩ := h
    split at h
    · simp at h
    · cases h
  | .lit (.enum _) b, X, W, s, e, fl, c, t, h => by
    unfold chE at h
    simp only [lgE, Bool.false_or] at h
    rw [Bool.and_eq_true] at h
    obtain ⟨hv, h⟩ := h
    split at h
    · simp at h
    · cases h
  | .lit (.zip _ _) b, X, W, s, e, fl, c, t, h => by
    unfold chE at h
    simp only [lgE, Bool.false_or] at h
    rw [Bool.and_eq_true] at h
    obtain ⟨hv, h⟩ := h
    split at h
    · simp at h
    · cases h
  | .sset x, X, W, s, e, fl, c, t, h => by
    simp only [chE, lgE, Bool.false_or] at h
    rw [Bool.and_eq_true] at h
    obtain ⟨hv, h⟩ := h
    refine res_of (fun ρ => by simp only [evT]) rfl hv ?_
    split at h
    · simp only [Bool.and_eq_true, beq_iff_eq] at h
      obtain ⟨⟨⟨⟨⟨h1, h2⟩, h3⟩, h4⟩, h5⟩, h6⟩ := h
      subst h1 h3
      exact pd_sset c.sup.room c.sup.calm (glB_ok c h2).1 (c.sup.noB _ (by decide +kernel)) (glB_ok c h4).1 (c.sup.noB _ (by decide +kernel)) h5 (chE_ok x (fl := false) c t h6)
    · cases h
  | .lot cn fl x, X, W, s, e, m, c, t, h => by
    simp only [chE, lgE, Bool.false_or] at h
    rw [Bool.and_eq_true] at h
    obtain ⟨hv, h⟩ := h
    refine res_of (fun ρ => by simp only [evT]) rfl hv ?_
    split at h
    · simp only [Bool.and_eq_true, beq_iff_eq, List.any_eq_true] at h
      obtain ⟨⟨⟨⟨⟨q, hq, q1, q2⟩, h2⟩, h3⟩, h4⟩, h5⟩ := h
      subst h2 q1 q2
      obtain ⟨i, ek, hf, _⟩ := c.sup.lots q hq
      obtain ⟨C, f, p, g, fd, gd, k1, k2, k3, k4, k5, k6, k7, k8, k9⟩ := hf.ex
      exact pd_lot k3 k4 k1 (by have := c.sup.room; rw [ek] at this; exact this) (glB_ok c h3).1 k2 k5 (glB_ok c h3).2 h4 (chE_ok x (fl := false) c t h5)
    · simp only [Bool.and_eq_true, beq_iff_eq, List.any_eq_true] at h
      obtain ⟨⟨⟨⟨q, hq, q1, q2⟩, h2⟩, h3⟩, h4⟩ := h
      subst h2 q1 q2
      obtain ⟨i, ek, _, _, hf, _⟩ := c.sup.lots q hq
      obtain ⟨C, f, T, fd, k1, k2, k3, k4, k5, k6⟩ := hf.ex
      split at h4
      · exact pd_lot0 k3 k4 k1 (by have := c.sup.room; rw [ek] at this; exact this) (glB_ok c h3).1 k2 k5 k6 (glB_ok c h3).2
      · cases h4
    · cases h
  | .prop cn fl x, X, W, s, e, m, c, t, h => by
    simp only [chE, lgE, Bool.false_or] at h
    rw [Bool.and_eq_true] at h
    obtain ⟨hv, h⟩ := h
    refine res_of (fun ρ => by simp only [evT]) rfl hv ?_
    split at h
    · simp only [Bool.and_eq_true, beq_iff_eq, List.any_eq_true] at h
      obtain ⟨⟨⟨q, hq, ⟨q1, q2⟩, q3⟩, h4⟩, h5⟩ := h
      subst q1 q2 q3
      obtain ⟨i, ek, hf, _⟩ := c.sup.lots q hq
      obtain ⟨C, f, p, g, fd, gd, k1, k2, k3, k4, k5, k6, k7, k8, k9⟩ := hf.ex
      exact pd_prop k6 k7 k8 k1 (by have := c.sup.room; rw [ek] at this; exact this) k9 h4 (chE_ok x (fl := false) c t h5)
    · cases h
  | .isaC cn x, X, W, s, e, m, c, t, h => by
    simp only [chE, lgE, Bool.false_or] at h
    rw [Bool.and_eq_true] at h
    obtain ⟨hv, h⟩ := h
    refine res_of (fun ρ => by simp only [evT]) rfl hv ?_
    split at h
    · simp only [Bool.and_eq_true, beq_iff_eq, List.any_eq_true] at h
      obtain ⟨⟨⟨⟨⟨⟨⟨q, hq, q1⟩, h2⟩, h3⟩, h4⟩, h5⟩, h6⟩, h7⟩ := h
      subst h2 q1 h4
      obtain ⟨i, ek, _, hf, _⟩ := c.sup.lots q hq
      obtain ⟨C, f, fd, k1, k2, k3, _⟩ := hf.ex
      exact pd_isaC k3 k1 (glB_ok c h3).1 (c.sup.noB _ (by decide +kernel)) (glB_ok c h5).1 k2 (glB_ok c h5).2 h6 (chE_ok x (fl := false) c t h7)
    · cases h
  | .fld _ _ _, X, W, s, e, m, c, t, h => by
    simp only [chE, Bool.and_false] at h
    cases h
  | .lenO cn fl x, X, W, s, e, fg, c, t, h => by
    simp only [chE, lgE, Bool.false_or] at h
    rw [Bool.and_eq_true] at h
    obtain ⟨hv, h⟩ := h
    refine res_of (fun ρ => by simp only [evT]) rfl hv ?_
    split at h
    · simp only [Bool.and_eq_true, beq_iff_eq, List.any_eq_true] at h
      obtain ⟨⟨⟨⟨⟨q, hq, q1, q2⟩, h2⟩, h3⟩, h6⟩, h7⟩ := h
      subst h2 q1 q2
      obtain ⟨i, ek, _, _, _, hf⟩ := c.sup.lots q hq
      exact pd_lenO (own_len hf (by have := c.sup.room; rw [ek] at this; exact this)) rfl (glB_ok c h3).1 (c.sup.noB _ (by decide +kernel)) h6 (chE_ok x (fl := false) c t h7)
    · cases h
  | .eqO neg cn fl x y, X, W, s, e, m, c, t, h => by
    simp only [chE, lgE, Bool.true_or, Bool.true_and] at h
    split at h
    · simp only [Bool.and_eq_true, Bool.not_eq_true', decide_eq_true_eq, beq_iff_eq, List.any_eq_true] at h
      obtain ⟨⟨⟨⟨⟨q, hq, q1, q2⟩, h2⟩, h3⟩, h4⟩, h5⟩ := h
      subst q1 q2
      have ha := chE_ok x (fl := false) c t h4
      have hb := chE_ok y (fl := false) c t h5
      obtain ⟨i, ek, _, hf, _⟩ := c.sup.lots q hq
      have ho := own_op (cx := cx) (neg := neg) hf (by have := c.sup.room; rw [ek] at this; exact this) h2
      cases m with
      | true => exact ⟨(pdt_eqO ho rfl h3 ha hb).ev fun ρ => by simp only [evT], fun z => by cases z⟩
      | false => exact pd_eqO ho rfl h3 ha hb
    · cases h
  | .inO _ _ _ _ _, X, W, s, e, fl, c, t, h => by
    simp only [chE, Bool.and_false] at h
    cases h
  | .fmt x, X, W, s, e, fl, c, t, h => by
    simp only [chE, lgE, Bool.false_or] at h
    rw [Bool.and_eq_true] at h
    obtain ⟨hv, h⟩ := h
    refine res_of (fun ρ => by simp only [evT]) rfl hv ?_
    split at h
    · rw [Bool.and_eq_true, decide_eq_true_eq] at h
      obtain ⟨rfl, h2⟩ := h
      exact pd_fmt (chE_ok x (fl := false) c t h2)
    · cases h
  | .fstr xs, X, W, s, e, fl, c, t, h => by
    simp only [chE, lgE, Bool.false_or] at h
    rw [Bool.and_eq_true] at h
    obtain ⟨hv, h⟩ := h
    refine res_of (fun ρ => by simp only [evT]) rfl hv ?_
    split at h
    · exact pd_fstr (chJs_ok xs c t h)
    · cases h
  | .rstr x, X, W, s, e, fl, c, t, h => by
    simp only [chE, lgE, Bool.false_or] at h
    rw [Bool.and_eq_true] at h
    obtain ⟨hv, h⟩ := h
    refine res_of (fun ρ => by simp only [evT]) rfl hv ?_
    split at h
    · simp only [Bool.and_eq_true] at h
      obtain ⟨⟨⟨h1, h2⟩, h3⟩, h4⟩ := h
      have := eq_of_beq h1
      subst this
      exact pd_rstr h3 h2 (chE_ok x (fl := false) c t h4)
    · cases h
  | .lstS xs x, X, W, s, e, fl, c, t, h => by
    simp only [chE, lgE, Bool.false_or] at h
    rw [Bool.and_eq_true] at h
    obtain ⟨hv, h⟩ := h
    refine res_of (fun ρ => by simp only [evT]) rfl hv ?_
    split at h
    · split at h
      · rename_i q hq
        obtain ⟨p, rfl⟩ := lastStar_ok hq
        rw [Bool.and_eq_true] at h
        exact pd_lstS (chY_ok xs (y := x) c t h.1 (pds_star1 (chE_ok x (fl := false) c t h.2)))
      · cases h
    · cases h
  | .join z x, X, W, s, e, fl, c, t, h => by
    simp only [chE, lgE, Bool.false_or] at h
    rw [Bool.and_eq_true] at h
    obtain ⟨hv, h⟩ := h
    refine res_of (fun ρ => by simp only [evT]) rfl hv ?_
    split at h
    · simp only [Bool.and_eq_true] at h
      obtain ⟨⟨⟨⟨h1, h2⟩, h3⟩, h4⟩, h5⟩ := h
      have := eq_of_beq h1
      subst this
      have := eq_of_beq h2
      subst this
      exact pd_join h3 h4 (chE_ok x (fl := false) c t h5)
    · cases h
  | .lzip x y, X, W, s, e, fl, c, t, h => by
    simp only [chE, lgE, Bool.false_or] at h
    rw [Bool.and_eq_true] at h
    obtain ⟨hv, h⟩ := h
    refine res_of (fun ρ => by simp only [evT]) rfl hv ?_
    split at h
    · simp only [Bool.and_eq_true, beq_iff_eq] at h
      obtain ⟨⟨⟨⟨⟨⟨⟨h1, h2⟩, h3⟩, h4⟩, h5⟩, h6⟩, h7⟩, h8⟩ := h
      subst h1 h3
      exact pd_lzip c.sup.calm (glB_ok c h2).1 (c.sup.noB _ (by decide +kernel)) (glB_ok c h4).1 (c.sup.noB _ (by decide +kernel)) h5 h6 (chE_ok x (fl := false) c t h7) (chE_ok y (fl := false) c t h8)
    · cases h
  | .inr neg x [y], X, W, s, e, fl, c, t, h => by
    unfold chE at h
    simp only [lgE, Bool.true_or, Bool.true_and] at h
    split at h
    · simp only [Bool.and_eq_true, beq_iff_eq, decide_eq_true_eq, Bool.not_eq_true'] at h
      obtain ⟨⟨⟨⟨⟨h1, h2⟩, h3⟩, h4⟩, h5⟩, h6⟩ := h
      subst h3 h1
      split at h6
      · simp only [Bool.and_eq_true] at h6
        have ha := chE_ok x (fl := false) c t h5
        have hb := chE_ok y (fl := false) c t h6.2
        have g := (glB_ok c h4).1
        have nb : X.mg ("range" : Str) = none := c.sup.noB _ (by decide +kernel)
        cases fl with
        | true => exact ⟨(pdt_inr1 h2 g nb h6.1 ha hb).ev fun ρ => by simp only [evT], fun z => by cases z⟩
        | false => exact pd_inr1 h2 g nb h6.1 ha hb
      · cases h6
    · cases h
  | .inr neg x [y, z], X, W, s, e, fl, c, t, h => by
    unfold chE at h
    simp only [lgE, Bool.true_or, Bool.true_and] at h
    split at h
    · simp only [Bool.and_eq_true, beq_iff_eq, decide_eq_true_eq, Bool.not_eq_true'] at h
      obtain ⟨⟨⟨⟨⟨h1, h2⟩, h3⟩, h4⟩, h5⟩, h6⟩ := h
      subst h3 h1
      split at h6
      · simp only [Bool.and_eq_true] at h6
        have ha := chE_ok x (fl := false) c t h5
        have hb := chE_ok y (fl := false) c t h6.1.2
        have hd := chE_ok z (fl := false) c t h6.2
        have g := (glB_ok c h4).1
        have nb : X.mg ("range" : Str) = none := c.sup.noB _ (by decide +kernel)
        cases fl with
        | true => exact ⟨(pdt_inr2 h2 g nb h6.1.1.1 h6.1.1.2 ha hb hd).ev fun ρ => by simp only [evT], fun z => by cases z⟩
        | false => exact pd_inr2 h2 g nb h6.1.1.1 h6.1.1.2 ha hb hd
      · cases h6
    · cases h
  | .inr neg x [], X, W, s, e, fl, c, t, h => by
    unfold chE at h
    simp only [lgE, Bool.true_or, Bool.true_and] at h
    split at h
    · simp at h
    · cases h
  | .inr neg x (_ :: _ :: _ :: _), X, W, s, e, fl, c, t, h => by
    unfold chE at h
    simp only [lgE, Bool.true_or, Bool.true_and] at h
    split at h
    · simp at h
    · cases h
  | .bad, X, W, s, e, fl, c, t, h => by
    cases fl with
    | true => exact ⟨pdt_bad fun ρ => by simp only [evT, evE]; rfl, fun z => by cases z⟩
    | false => exact pd_bad fun ρ => by simp only [evE]
theorem chO_ok : ∀ (x : Option Ex) {X : Cx} {W : WX} {s : SC} {e : Option Expr}, Ct gi X xr k cx s → Takes X W → chO gi s x e = true → PDo X xr W e (evO cx x)
  | none, X, W, s, e, c, t, h => by
    simp only [chO] at h
    cases e with
    | none => exact pdo_none
    | some e => cases h
  | some x, X, W, s, e, c, t, h => by
    simp only [chO] at h
    cases e with
    | none => cases h
    | some e => exact pdo_some (chE_ok x c t h)
theorem chKs_ok : ∀ (xs : List (Ex × Ex)) {X : Cx} {W : WX} {s : SC} {ks : List (Option Expr)} {vs : List Expr} {pos : Pos}, Ct gi X xr k cx s → Takes X W → chKs gi s xs ks vs = true → ks.all (·.isSome) = true ∧ ks.length = vs.length ∧ xs.length = ks.length ∧ PDks X xr W pos ks vs (evKs cx xs)
  | [], X, W, s, ks, vs, pos, c, t, h => by
    simp only [chKs, Bool.and_eq_true, List.isEmpty_iff] at h
    obtain ⟨rfl, rfl⟩ := h
    exact ⟨rfl, rfl, rfl, pdks_nil⟩
  | (x, y) :: xs, X, W, s, ks, vs, pos, c, t, h => by
    simp only [chKs] at h
    split at h
    · rename_i k ks v vs
      simp only [Bool.and_eq_true] at h
      obtain ⟨h1, h2, h3, h4⟩ := chKs_ok xs (pos := pos) c t h.2
      exact ⟨by rw [List.all_cons, h1]; rfl, by rw [List.length_cons, List.length_cons, h2], by rw [List.length_cons, List.length_cons, h3], pdks_cons (chE_ok x c t h.1.1) (chE_ok y c t h.1.2) h4⟩
    · cases h
theorem chDs_ok : ∀ (xs : List Ex) {X : Cx} {W : WX} {s : SC} {es : List Expr}, Ct gi X xr k cx s → Takes X W → chDs gi s xs es = true → PDs X xr W es (evDs cx xs)
  | [], X, W, s, es, c, t, h => by
    simp only [chDs] at h
    cases es with
    | nil => exact pds_nil
    | cons e es => cases h
  | x :: xs, X, W, s, es, c, t, h => by
    simp only [chDs] at h
    cases es with
    | nil => cases h
    | cons e es =>
      simp only [Bool.and_eq_true] at h
      exact pds_cons (star_one h.1.1 _ _) (chE_ok x c t h.1.2) (chDs_ok xs c t h.2)
theorem chJs_ok : ∀ (xs : List Ex) {X : Cx} {W : WX} {s : SC} {es : List Expr}, Ct gi X xr k cx s → Takes X W → chDs gi s xs es = true → PDj X xr W cx es xs
  | [], X, W, s, es, c, t, h => by
    simp only [chDs] at h
    cases es with
    | nil => exact pdj_nil
    | cons e es => cases h
  | x :: xs, X, W, s, es, c, t, h => by
    simp only [chDs] at h
    cases es with
    | nil => cases h
    | cons e es =>
      simp only [Bool.and_eq_true] at h
      exact pdj_cons (chE_ok x (fl := false) c t h.1.2) (chJs_ok xs c t h.2)
theorem chY_ok : ∀ (xs : List Ex) {y : Ex} {X : Cx} {W : WX} {s : SC} {es rest : List Expr}, Ct gi X xr k cx s → Takes X W → chDs gi s xs es = true → PDs X xr W rest (evDst cx [] y) → PDs X xr W (es ++ rest) (evDst cx xs y)
  | [], y, X, W, s, es, rest, c, t, h, hr => by
    simp only [chDs] at h
    have : es = [] := by simpa using h
    subst this
    exact hr
  | x :: xs, y, X, W, s, es, rest, c, t, h, hr => by
    simp only [chDs] at h
    split at h
    · cases h
    · simp only [Bool.and_eq_true] at h
      exact pds_starC h.1.1 (chE_ok x (fl := false) c t h.1.2) (chY_ok xs c t h.2 hr)
theorem chX_ok : ∀ (xs : List Ex) {st : Option Ex} {refs : List Bool} {X : Cx} {W : WX} {s : SC} {es rest : List Expr}, Ct gi X xr k cx s → Takes X W → chDs gi s xs es = true → (∀ refs, PDx X xr W rest (evRx cx [] st refs)) → PDx X xr W (es ++ rest) (evRx cx xs st refs)
  | [], st, refs, X, W, s, es, rest, c, t, h, hr => by
    simp only [chDs] at h
    have : es = [] := by simpa using h
    subst this
    exact hr _
  | x :: xs, st, refs, X, W, s, es, rest, c, t, h, hr => by
    simp only [chDs] at h
    split at h
    · cases h
    · simp only [Bool.and_eq_true] at h
      exact pdx_cons h.1.1 (chE_ok x c t h.1.2) (chX_ok xs c t h.2 hr)
theorem chA_ok : ∀ (xs : List Ex) {X : Cx} {W : WX} {s : SC} {es : List Expr} {kws : List Keyword}, Ct gi X xr k cx s → Takes X W → es.all noStar = true → chA gi s xs es kws = true →
    ∃ xs1 ys, xs = xs1 ++ ys ∧ xs1.length = es.length ∧ ys.length = kws.length ∧ (∀ refs, PDr X xr W es (evRs cx xs1 refs)) ∧ ∀ refs, PDk X xr W kws (evRs cx ys refs)
  | [], X, W, s, es, kws, c, t, hs, h => by
    simp only [chA] at h
    cases es with
    | cons e es => cases h
    | nil =>
      cases kws with
      | cons e es => cases h
      | nil => exact ⟨[], [], rfl, rfl, rfl, fun _ => pdr_nil, fun _ => pdk_nil⟩
  | x :: xs, X, W, s, es, kws, c, t, hs, h => by
    simp only [chA] at h
    cases es with
    | cons e es =>
      simp only [Bool.and_eq_true] at h
      have hs' : noStar e = true ∧ es.all noStar = true := by simpa using hs
      have ha := chE_ok x c t h.1
      obtain ⟨xs1, ys, e1, l1, l2, h1, h2⟩ := chA_ok xs c t hs'.2 h.2
      exact ⟨x :: xs1, ys, by rw [e1]; rfl, by simp [l1], l2, fun refs => pdr_cons hs'.1 ha (h1 _), h2⟩
    | nil =>
      cases kws with
      | nil => cases h
      | cons kw kws =>
        obtain ⟨nm, e, kp⟩ := kw
        simp only [Bool.and_eq_true] at h
        have ha := chE_ok x c t h.1
        obtain ⟨xs1, ys, e1, l1, l2, h1, h2⟩ := chA_ok xs c t hs h.2
        have : xs1 = [] := List.length_eq_zero_iff.mp l1
        subst this
        exact ⟨[], x :: ys, by rw [e1]; rfl, rfl, by simp [l2], fun _ => pdr_nil, fun refs => pdk_cons ha (h2 _)⟩
theorem chI_ok : ∀ (it : It) {X : Cx} {W : WX} {s : SC} {tg e : Expr}, Ct gi X xr k cx s → Takes X W → chI gi s it tg e = true → PDi X xr W tg e (evI cx it)
  | .seq x, X, W, s, tg, e, c, t, h => by
    simp only [chI] at h
    exact pdi_seq (chE_ok x c t h)
  | .rng xs, X, W, s, tg, e, c, t, h => by
    simp only [chI] at h
    split at h
    · rename_i n p es pos
      simp only [Bool.and_eq_true, beq_iff_eq, decide_eq_true_eq] at h
      obtain ⟨⟨⟨⟨h1, h2⟩, h3⟩, h4⟩, h5⟩ := h
      subst h1
      have g := (glB_ok c h2).1
      have nb : X.mg ("range" : Str) = none := c.sup.noB _ (by decide +kernel)
      match xs, es, h3, h4, h5 with
      | [], [], h3, _, _ => simp at h3
      | [], _ :: _, _, _, h5 => simp [chDs] at h5
      | _ :: _, [], h3, _, _ => simp at h3
      | [x], [e1], _, _, h5 =>
        simp only [chDs, Bool.and_eq_true] at h5
        exact pdi_rng1 g nb h5.1.1 (chE_ok x c t h5.1.2)
      | [x], _ :: _ :: _, _, _, h5 => simp [chDs] at h5
      | _ :: _ :: _, [_], _, _, h5 => simp [chDs] at h5
      | [x, y], [e1, e2], _, _, h5 =>
        simp only [chDs, Bool.and_eq_true] at h5
        exact pdi_rng2 g nb h5.1.1 h5.2.1.1 (chE_ok x c t h5.1.2) (chE_ok y c t h5.2.1.2)
      | [x, y], _ :: _ :: _ :: _, _, _, h5 => simp [chDs] at h5
      | _ :: _ :: _ :: _, [_, _], _, _, h5 => simp [chDs] at h5
      | [x, y, z], [e1, e2, e3], _, _, h5 =>
        simp only [chDs, Bool.and_eq_true] at h5
        exact pdi_rng3 g nb h5.1.1 h5.2.1.1 h5.2.2.1.1 (chE_ok x c t h5.1.2) (chE_ok y c t h5.2.1.2) (chE_ok z c t h5.2.2.1.2)
      | _, _ :: _ :: _ :: _ :: _, _, h4, _ => simp at h4
      | _ :: _ :: _ :: _ :: _, [_, _, _], _, _, h5 => simp [chDs] at h5
    · cases h
  | .enum x, X, W, s, tg, e, c, t, h => by
    simp only [chI] at h
    split at h
    · simp only [Bool.and_eq_true, beq_iff_eq] at h
      obtain ⟨⟨⟨⟨h1, h2⟩, h3⟩, h4⟩, h5⟩ := h
      subst h1
      cases tg <;> first | (cases h3; done) | skip
      exact pdi_enum (glB_ok c h2).1 (c.sup.noB _ (by decide +kernel)) h4 (chE_ok x c t h5)
    · cases h
  | .zip a b, X, W, s, tg, e, c, t, h => by
    simp only [chI] at h
    split at h
    · simp only [Bool.and_eq_true, beq_iff_eq] at h
      obtain ⟨⟨⟨⟨⟨⟨h1, h2⟩, h3⟩, h4⟩, h5⟩, h6⟩, h7⟩ := h
      subst h1
      cases tg <;> first | (cases h3; done) | skip
      exact pdi_zip (glB_ok c h2).1 (c.sup.noB _ (by decide +kernel)) h4 h5 (chE_ok a c t h6) (chE_ok b c t h7)
    · cases h
end
end
end MI
namespace MI
open PySem PySem.Spec PyProof.Rows L2
/-! ### statements -/
def isComp : Ex → Bool
  | .comp _ _ _ _ => true
  | _ => false
mutual
def chS (gi : Gi) (s : SC) (st : Sx) (p : Stmt) : Bool := match st with
  | .asg i x => (match p with
    | .Assign [.Name y py] e _ => locB s i y && chE gi s false x e && (match e with
      | .ListComp _ _ _ _ => isComp x && isFn s
      | e => plainV e)
    | _ => false)
  | .unp is x => (match p with
    | .Assign [tge] e _ => plainV e && noTup e && !(noTup tge) && chG s (.tup (is.map .name)) tge && chE gi s false x e
    | _ => false)
  | .setI i ix x => (match p with
    | .Assign [.Subscript (.Name y _) ixe _] e _ => visB s i y && noSlice ixe && plainV e && chE gi s false x e && chE gi s false ix ixe
    | _ => false)
  | .expr x => (match p with
    | .Expr e _ => plainV e && chE gi s false x e
    | _ => false)
  | .ret x => (match p with
    | .Return (some e) _ => chE gi s false x e
    | _ => false)
  | .retN => (match p with
    | .Return none _ => true
    | _ => false)
  | .ite c a b => (match p with
    | .If c' a' b' _ => chE gi s true c c' && chSs gi s a a' && chSs gi s b b'
    | _ => false)
  | .for tg it b => (match p with
    | .For tge ie body [] _ => noSet ie && chG s tg tge && chI gi s it tge ie && chSs gi s b body
    | _ => false)
  | .pass => (match p with
    | .Pass _ => true
    | _ => false)
  | .brk => (match p with
    | .Break _ => true
    | _ => false)
  | .cont => (match p with
    | .Continue _ => true
    | _ => false)
  | .par i j a b => (match p with
    | .Assign [.Tuple [.Name x px, .Name y py] _ _] (.Tuple [e1, e2] _ _) _ => s.N[i]? == some x && s.N[j]? == some y && s.sc.names.lookup x == some .local && s.sc.names.lookup y == some .local && (match s.sc.kind with | .function => true | _ => false) &&
      (py.line == px.line) && noStar e1 && noStar e2 && !([e1, e2].all (foldedForSure 8)) && !([e1, e2].all (constantsAlone 8)) && decide (i ≠ j) && chE gi s false a e1 && chE gi s false b e2
    | _ => false)
  | .augI _ _ _ _ => false
  | .aug _ _ _ => false
  | .while c b => (match p with
    | .While c' b' [] _ => chE gi s true c c' && chSs gi s b b'
    | _ => false)
  | .tryN b => (match p with
    | .Try body (_ :: _) [] [] _ => chSs gi s b body
    | _ => false)
  | .raise _ _ => true
def chSs (gi : Gi) (s : SC) (sts : List Sx) (ps : List Stmt) : Bool := match sts with
  | [] => ps.isEmpty
  | st :: sts => (match ps with
    | [] => false
    | p :: ps => chS gi s st p && chSs gi s sts ps)
end
section
variable {gi : Gi} {xr : XRep} {k : Nat} {cx : Cxt} {X : Cx} {W : WX} {s : SC}
theorem asgC_ok {i : Nat} {y : Str} {py pos cpos : Pos} {e1 : Expr} {gens : List Comprehension} {scope : Scope} {elt : Ex} {tg : Tg} {it : It} {cond : Option Ex} (c : Ct gi X xr k cx s) (t : Takes X W) (hl : locB s i y = true) (hsw : swB s y py cpos scope = true) (h : chE gi s false (.comp elt tg it cond) (.ListComp e1 gens scope cpos) = true) :
    PDst X xr W (.Assign [.Name y py] (.ListComp e1 gens scope cpos) pos) (evS cx (.asg i (.comp elt tg it cond))) := by
  obtain ⟨l1, l2, l3⟩ := locB_ok c hl
  have hyl : X.env.scope.names.lookup y = some .local := by
    rw [c.sc]
    unfold swB at hsw
    simp only [Bool.and_eq_true, beq_iff_eq] at hsw
    exact hsw.1.1.2
  have key : ∀ {e : Expr}, e = .ListComp e1 gens scope cpos → chE gi s false (.comp elt tg it cond) e = true → ∃ tge ie ifs, gens = [⟨tge, ie, ifs, 0⟩] ∧ blkC s.N s.sc scope (ownOf s tg.vars) = true ∧ noSet ie = true ∧ chG (s.blk scope) tg tge = true ∧ chI gi s it tge ie = true ∧ chE gi (s.blk scope) false elt e1 = true ∧ ((cond = none ∧ ifs = []) ∨ ∃ d d', cond = some d ∧ ifs = [d'] ∧ chE gi (s.blk scope) true d d' = true) := by
    intro e he h
    cases cond with
    | none =>
      unfold chE at h
      simp only [lgE, Bool.false_or] at h
      rw [Bool.and_eq_true] at h
      obtain ⟨hv, h⟩ := h
      split at h
      · rename_i e2 tge ie ifs scope2 pos2
        cases he
        simp only [Bool.and_eq_true] at h
        obtain ⟨⟨⟨⟨⟨h1, h2⟩, h3⟩, h4⟩, h5⟩, h6⟩ := h
        exact ⟨tge, ie, ifs, rfl, h1, h2, h3, h4, h5, .inl ⟨rfl, by simpa using h6⟩⟩
      · cases h
    | some d =>
      unfold chE at h
      simp only [lgE, Bool.false_or] at h
      rw [Bool.and_eq_true] at h
      obtain ⟨hv, h⟩ := h
      split at h
      · rename_i e2 tge ie ifs scope2 pos2
        cases he
        simp only [Bool.and_eq_true] at h
        obtain ⟨⟨⟨⟨⟨h1, h2⟩, h3⟩, h4⟩, h5⟩, h6⟩ := h
        split at h6
        · exact ⟨tge, ie, _, rfl, h1, h2, h3, h4, h5, .inr ⟨d, _, rfl, rfl, h6⟩⟩
        · cases h6
      · cases h
  obtain ⟨tge, ie, ifs, rfl, h1, h2, h3, h4, h5, h6⟩ := key rfl h
  refine pds_asgC c.sup.calm c.sup.nd l1 hyl (sw_comp c.sc hsw) (chI_ok it c t h4) (own := ownOf s tg.vars) (by rw [c.N, c.sc]; exact blkOk_by h1) (own_ix (X := X) _) (fun s0 H C cl fp => chG_ok (c.blk scope s0 H C cl fp) tg tge h3) (fun s0 H C cl fp => ?_) (fun s0 H C cl fp => chE_ok elt (c.blk scope s0 H C cl fp) takes0 h5) (noSet_ok h2 _)
  rcases h6 with ⟨rfl, rfl⟩ | ⟨d, d', rfl, rfl, h6⟩
  · exact pdc_nil
  · exact pdc_one (chE_ok d (fl := true) (c.blk scope s0 H C cl fp) takes0 h6).1
/-! ### try, nothing raised -/
theorem Ct.nox {X : Cx} {s : SC} (c : Ct gi X xr k cx s) : Ct gi X.nox xr k cx s := by
  refine ⟨⟨c.sup.room, c.sup.gd, c.sup.calm, c.sup.nd, c.sup.noB, c.sup.glo, fun i sg h => ⟨(c.sup.fns i sg h).ex⟩, fun i sg h hs => ⟨(c.sup.stars i sg h hs).ex⟩, c.sup.sys, fun q hq => by
    obtain ⟨i, e, h⟩ := c.sup.lots q hq
    exact ⟨i, e, ⟨h.1.ex⟩, ⟨h.2.1.ex⟩, ⟨h.2.2.1.ex⟩, ⟨h.2.2.2.ex⟩⟩⟩, c.N, c.sc, c.fn⟩
theorem takesN {X : Cx} : Takes X.nox W0 := fun u s' ⟨a, B, sI, pins, σ, H, cls, d, e, I, nb, up, sky, na, os, ag, w⟩ => w
theorem pds_tryN {X : Cx} {W : WX} {body : List Stmt} {h₀ : ExceptHandler} {hs : List ExceptHandler} {pos : Pos} {b : List Sx} (h : PDss X.nox xr W0 body (evSs cx b)) : PDst X xr W (.Try body (h₀ :: hs) [] [] pos) (evS cx (.tryN b)) := by
  obtain ⟨t, p, kk⟩ := h.run
  refine ⟨_, ps_try_thru0 p, fun F H O σ ρ D S w => kk F H O σ ρ D S ?_⟩
  simp only [evS] at w
  cases e : evSs cx b ρ with
  | ok fl ρ' =>
    rw [e] at w
    dsimp only at w
    cases fl <;> exact w
  | ex x ρ' => rw [e] at w; exact w.elim
  | no => rw [e] at w; exact w.elim
mutual
theorem chS_ok {X : Cx} {W : WX} {s : SC} (c : Ct gi X xr k cx s) (t : Takes X W) (po : PassesOwn (model X.prog X.w) X.A X.env X.xe) : ∀ (st : Sx) (p : Stmt), chS gi s st p = true → PDst X xr W p (evS cx st)
  | .asg i x, p, h => by
    simp only [chS] at h
    split at h
    · rename_i y py e pos
      simp only [Bool.and_eq_true] at h
      obtain ⟨⟨h1, h2⟩, h3⟩ := h
      split at h3
      · rename_i scope cpos
        simp only [Bool.and_eq_true] at h3
        cases hsw : swB s y py cpos scope with
        | true =>
          cases x <;> try (cases h3.1; done)
          exact asgC_ok c t h1 hsw h2
        | false =>
          obtain ⟨l1, l2, l3⟩ := locB_ok c h1
          exact pds_asg c.sup.nd l1 l2 l3 (sw_compN c.sc h3.2 hsw) (chE_ok x (fl := false) c t h2)
      · obtain ⟨l1, l2, l3⟩ := locB_ok c h1
        exact pds_asg c.sup.nd l1 l2 l3 (sw_plain h3 _ _ _) (chE_ok x (fl := false) c t h2)
    · cases h
  | .unp is x, p, h => by
    simp only [chS] at h
    split at h
    · simp only [Bool.and_eq_true] at h
      obtain ⟨⟨⟨⟨h1, h2⟩, h3⟩, h4⟩, h5⟩ := h
      rename_i tge e pos
      cases tge <;> try (cases h3; done)
      exact pds_unp (sws_plain h1 _ _ _) (st_tup h2 _) rfl (chG_ok c _ _ h4) (chE_ok x (fl := false) c t h5)
    · cases h
  | .setI i ix x, p, h => by
    simp only [chS] at h
    split at h
    · simp only [Bool.and_eq_true] at h
      obtain ⟨⟨⟨⟨h1, h2⟩, h3⟩, h4⟩, h5⟩ := h
      obtain ⟨v1, v2, v3, v4⟩ := visB_ok c h1
      exact pds_setI v1 v2 v3 v4 h2 (sws_plain h3 _ _ _) (st_sub _ _) (chE_ok x (fl := false) c t h4) (chE_ok ix (fl := false) c t h5)
    · cases h
  | .expr x, p, h => by
    simp only [chS] at h
    split at h
    · simp only [Bool.and_eq_true] at h
      exact pds_expr (sw_plain h.1 _ _ _) (chE_ok x (fl := false) c t h.2)
    · cases h
  | .ret x, p, h => by
    simp only [chS] at h
    split at h
    · exact pds_ret (chE_ok x (fl := false) c t h)
    · cases h
  | .retN, p, h => by
    simp only [chS] at h
    split at h
    · exact pds_retN
    · cases h
  | .ite d a b, p, h => by
    simp only [chS] at h
    split at h
    · simp only [Bool.and_eq_true] at h
      exact pds_if (chE_ok d (fl := true) c t h.1.1).1 (chSs_ok c t po a _ h.1.2) (chSs_ok c t po b _ h.2)
    · cases h
  | .for tg it b, p, h => by
    simp only [chS] at h
    split at h
    · simp only [Bool.and_eq_true] at h
      exact pds_for po c.sup.calm (chI_ok it c t h.1.2) (chG_ok c tg _ h.1.1.2) (chSs_ok c t po b _ h.2) (noSet_ok h.1.1.1 _)
    · cases h
  | .pass, p, h => by
    simp only [chS] at h
    split at h
    · exact pds_pass
    · cases h
  | .brk, p, h => by
    simp only [chS] at h
    split at h
    · exact pds_brk
    · cases h
  | .cont, p, h => by
    simp only [chS] at h
    split at h
    · exact pds_cont
    · cases h
  | .par i j a b, p, h => by
    simp only [chS] at h
    split at h
    · rename_i x px y py kt pt e1 e2 k2 pt2 pos
      simp only [Bool.and_eq_true, beq_iff_eq, decide_eq_true_eq, Bool.not_eq_true'] at h
      obtain ⟨⟨⟨⟨⟨⟨⟨⟨⟨⟨⟨⟨h1, h2⟩, h3⟩, h4⟩, h5⟩, h6⟩, h7⟩, h8⟩, h9⟩, h10⟩, h11⟩, h12⟩, h13⟩ := h
      have hx : X.env.scope.names.lookup x = some .local := by rw [c.sc]; exact h3
      have hy : X.env.scope.names.lookup y = some .local := by rw [c.sc]; exact h4
      have hk : X.env.scope.kind = .function := by
        rw [c.sc]
        split at h5
        · assumption
        · cases h5
      have hi : X.N[i]? = some x := by rw [c.N]; exact h1
      have hj : X.N[j]? = some y := by rw [c.N]; exact h2
      have hxy : x ≠ y := fun z => by
        subst z
        have hl : i < X.N.length := by
          rcases Nat.lt_or_ge i X.N.length with q | q
          · exact q
          · rw [List.getElem?_eq_none q] at hi; cases hi
        exact h11 ((List.getElem?_inj hl c.sup.nd).mp (hi.trans hj.symm))
      exact pds_par c.sup.calm c.sup.nd hi hj hx hy h7 h8 (sw_par hk hx hy (by simpa using h6) hxy h7 h8 h9 h10) (chE_ok a (fl := false) c t h12) (chE_ok b (fl := false) c t h13) h11
    · cases h
  | .augI _ _ _ _, p, h => by simp only [chS] at h; cases h
  | .aug _ _ _, p, h => by simp only [chS] at h; cases h
  | .while d b, p, h => by
    simp only [chS] at h
    split at h
    · simp only [Bool.and_eq_true] at h
      exact pds_while po (chE_ok d (fl := true) c t h.1).1 (chSs_ok c t po b _ h.2)
    · cases h
  | .tryN b, p, h => by
    simp only [chS] at h
    split at h
    · exact pds_tryN (chSs_ok (c.nox) takesN (fun _ _ z => z.elim) b _ h)
    · cases h
  | .raise _ _, p, h => pds_bad fun ρ => by simp only [evS]
theorem chSs_ok {X : Cx} {W : WX} {s : SC} (c : Ct gi X xr k cx s) (t : Takes X W) (po : PassesOwn (model X.prog X.w) X.A X.env X.xe) : ∀ (sts : List Sx) (ps : List Stmt), chSs gi s sts ps = true → PDss X xr W ps (evSs cx sts)
  | [], ps, h => by
    simp only [chSs] at h
    cases ps with
    | nil => exact pdss_nil
    | cons p ps => cases h
  | st :: sts, ps, h => by
    simp only [chSs] at h
    cases ps with
    | nil => cases h
    | cons p ps =>
      simp only [Bool.and_eq_true] at h
      exact pdss_cons (chS_ok c t po st p h.1) (chSs_ok c t po sts ps h.2)
end
end
/-! ### the table of a text's defs -/
structure Df where
  name : Str
  N : List Str
  ps : List Str
  params : Arguments
  body : List Stmt
  scope : Scope
  fd : Fd
  shapes : List Shape
  dfl : List He.Dv := []
  kwd : List (Str × He.Dv) := []
  star : Bool := false
def Df.dvs (K : PySem.W.Frag) (d : Df) : List V := d.dfl.map (He.Dv.v K)
def Df.kws (K : PySem.W.Frag) (d : Df) : List (Str × V) := d.kwd.map fun q => (q.1, q.2.v K)
/-- a def as it stands -/
abbrev Df.Fun (K : PySem.W.Frag) (d : Df) (f : Addr) (fd : FuncData) : Prop := FunD K d.name d.name d.params d.body d.scope (d.dvs K) (d.kws K) f fd
def sigsOf (defs : List Df) : List Sig := defs.map fun d => ⟨d.name, d.ps, d.shapes, d.star⟩
def okDf (gi : Gi) (d : Df) : Bool := decide (d.ps.length = d.fd.nP) && decide (d.N.length = d.fd.nS) && chSs gi ⟨d.N, d.scope, fun _ => true⟩ d.fd.body d.body
structure HeadOk (gi : Gi) (defs : List Df) (K : PySem.W.Frag) (mg : Str → Option Value) : Prop where
  noB : ∀ n ∈ noBs, mg n = none
  glo : ∀ p ∈ gi.consts, ∃ v u, mg (Str.ofString p.1) = some u ∧ RelV v u ∧ ∀ F H, Dat K F H v p.2
  sys : SysOk K
  lots : ∀ q ∈ gi.lots, LotHd K mg q ∧ LotN K mg q ∧ LotZN K mg q ∧ LotLN K mg q
  fn : ∀ (i : Nat) (d : Df), defs[i]? = some d → ∃ f fd, d.Fun K f fd ∧ mg d.name = some (.ref f) ∧
    (∀ sh ∈ d.shapes, ∃ g gV, KBn K fd d.ps sh.n sh.ks g gV ∧ ∀ vs zs : List V, vs.length = sh.n → zs.length = sh.ks.length → Pick K (vs ++ zs) sh.src (gV vs zs)) ∧
    (d.star = true → ∃ ps pv, d.ps = ps ++ [pv] ∧ StarBind fd ps pv)
theorem table {gi : Gi} {defs : List Df} {P : Program} {w : World} {K : PySem.W.Frag} {mg : Str → Option Value} {base : Heap} (xr : XRep) (fuel : Nat) (hs : gi.sigs = sigsOf defs) (hd : HeadOk gi defs K mg) (hok : ∀ d ∈ defs, okDf gi d = true) (hsc : ∀ d ∈ defs, FnScope d.N d.ps d.scope) :
    ∀ (k : Nat) (i : Nat) (d : Df), defs[i]? = some d → ∀ f fd, d.Fun K f fd → FnG P w K mg base (k + 2) f fd d.ps (SpMi K xr (run (defs.map (·.fd)) fuel k i)) ∧
      ∀ ps pv, d.ps = ps ++ [pv] → StarBind fd ps pv → FnRG P w K mg base (k + 2) f (SpStar K xr (run (defs.map (·.fd)) fuel k i) ps.length)
  | 0, i, d, hi, f, fd, F => by
    have no : ∀ vs H Q E, ¬ SpMi K xr (run (defs.map (·.fd)) fuel 0 i) vs H Q E := fun vs H Q E z => z.choose_spec.choose_spec.choose_spec.2
    refine ⟨⟨fun vs H Q E h => (no vs H Q E h).elim, fun A outer s H args us vs Q E hg hr e0 hb r h => (no vs H Q E h).elim⟩, fun ps pv _ _ A outer s H us vs Q E hg hr e0 r h => ?_⟩
    obtain ⟨ws, rest, _, _, _, q⟩ := h
    exact (no _ _ _ _ (q s.heap.objs.size (e0.hok.fresh (Nat.le_refl _)))).elim
  | k + 1, i, d, hi, f, fd, F => by
    have hm : d ∈ defs := List.mem_of_getElem? hi
    have ho := hok d hm
    unfold okDf at ho
    simp only [Bool.and_eq_true, decide_eq_true_eq] at ho
    obtain ⟨⟨o1, o2⟩, o3⟩ := ho
    have hrun : run (defs.map (·.fd)) fuel (k + 1) i = runB ⟨run (defs.map (·.fd)) fuel k, fuel⟩ d.fd := by
      funext ms
      unfold run
      rw [List.getElem?_map, hi]
      rfl
    rw [hrun]
    obtain ⟨oc, od, dV, kV, doc, pm, an, cdv, ct, osl, rfl, lk, hcd, _, _⟩ := F.ex
    have key : ∀ (A : Around) (outer : List PySem.Env) (s : Shared) (H : Hp) (vs : List V) (Q : VK) (E : XK), A.guards = some [] → Room (k + 2) (A.deeper (envOfC d.name d.scope s.heap.objs.size f cdv)) → SpMi K xr (runB ⟨run (defs.map (·.fd)) fuel k, fuel⟩ d.fd) vs H Q E →
        ∃ t, PSs (cxOf (L2.CX P w) P w K mg base d.N d.name d.scope f cdv A outer s H E) d.body t ∧ t { nx := fun _ H' => Q .non H', rt := Q } (start d.N vs) H := by
      intro A outer s H vs Q E hg hr hsp
      have hA : (A.deeper (envOfC d.name d.scope s.heap.objs.size f cdv)).guards = some [] := hg
      let X : Cx := cxOf (L2.CX P w) P w K mg base d.N d.name d.scope f cdv A outer s H E
      have sig : ∀ (j : Nat) (sg : Sig), gi.sigs[j]? = some sg → ∃ d2 : Df, defs[j]? = some d2 ∧ sg = Sig.mk d2.name d2.ps d2.shapes d2.star := fun j sg hj => by
        rw [hs] at hj
        unfold sigsOf at hj
        rw [List.getElem?_map, Option.map_eq_some_iff] at hj
        obtain ⟨d2, hj, rfl⟩ := hj
        exact ⟨d2, hj, rfl⟩
      have c : Ct gi X xr (k + 2) ⟨run (defs.map (·.fd)) fuel k, fuel⟩ ⟨d.N, d.scope, fun _ => true⟩ := by
        refine ⟨⟨hr, hA, rfl, (hsc d hm).nd, hd.noB, hd.glo, fun j sg hj => ?_, fun j sg hj hst => ?_, hd.sys, fun q hq => ⟨k, rfl, ?_, ?_, ?_, ?_⟩⟩, rfl, rfl, rfl⟩
        · obtain ⟨d2, hj2, rfl⟩ := sig j sg hj
          obtain ⟨f2, fd2, F2, m2, b2, _⟩ := hd.fn j d2 hj2
          exact ⟨f2, fd2, (table xr fuel hs hd hok hsc k j d2 hj2 f2 fd2 F2).1, m2, F2.kp, b2⟩
        · obtain ⟨d2, hj2, rfl⟩ := sig j sg hj
          obtain ⟨f2, fd2, F2, m2, _, b2⟩ := hd.fn j d2 hj2
          obtain ⟨ps, pv, e1, e2⟩ := b2 hst
          have l : d2.ps.length - 1 = ps.length := by rw [e1]; simp
          refine ⟨f2, ?_, m2, F2.kp⟩
          show FnRG _ _ _ _ _ _ _ (SpStar _ _ _ (d2.ps.length - 1))
          rw [l]
          exact (table xr fuel hs hd hok hsc k j d2 hj2 f2 fd2 F2).2 ps pv e1 e2
        · obtain ⟨C, f, p, g, fd, gd, k1, k2, k3, k4, k5, k6, k7, k8⟩ := (hd.lots q hq).1.ex
          exact ⟨C, f, p, g, fd, gd, k1, k2, k3, (k8 _ _ _ k).1, k4, k5, k6, (k8 _ _ _ k).2, k7⟩
        · obtain ⟨C, f, fd, k1, k2, k3, k4, k5, k6, k7, k8⟩ := (hd.lots q hq).2.1.ex
          exact ⟨C, f, fd, k1, k2, k3, k8 _ _ _ k, k4, k5, k6, k7⟩
        · obtain ⟨C, f, T, fd, k1, k2, k3, k4, k5, k6⟩ := (hd.lots q hq).2.2.1.ex
          exact ⟨C, f, T, fd, k1, k2, k3, k6 _ _ _ k, k4, k5⟩
        · obtain ⟨C, f, fd, k1, k2, k3, k4, k5⟩ := (hd.lots q hq).2.2.2.ex
          exact ⟨C, f, fd, k1, k5 _ _ _ k, k2, k3, k4⟩
      have tk : Takes X (fun cls d _ H => E cls d H) := takes_of rfl rfl rfl rfl
      have po : PassesOwn (model X.prog X.w) X.A X.env X.xe := passes_of rfl
      exact body_ok (X := X) (chSs_ok c tk po _ _ o3) o2 hsp
    refine ⟨fnG_of lk hcd (hsc d hm) (fun vs H Q E h => (sp_len h).trans o1.symm) key, fun ps pv e1 e2 => ?_⟩
    have S := hsc d hm
    rw [e1] at S
    exact starG_of lk hcd S e2 key
end MI
namespace MI
open PySem PySem.Spec PyProof.Rows L2
/-! ### the law's call -/
/-- the law's def, called with the script, where no guard stands around -/
theorem law_callG {P : Program} {w : World} {K : PySem.W.Frag} {mg mb : Str → Option Value} {k : Nat} {fa a : Addr} {fd : FuncData} {x : Str} {sp : Sp} {t : Shared} {vs : List Value} {ns : List Int} (KX : K.In t.heap) (hns : t.heap.Ns mainGlobals mg)
    (hb : t.heap.Ns builtinsNs mb) (hbb : ∀ x : Str, x ≠ "__name__" → mb x = bootBuiltins x) (hlim : t.heap.NoLimit) (hg : t.gens = #[]) (ha : t.heap.get? a = some { cls := .type "list", data := .seq vs.toArray }) (hi : IntsAre vs ns)
    (hl : ns.length ≤ sizeLine) (hr : Room k callerA) (G : ∀ base : Heap, K.In base → base.Ns mainGlobals mg → FnG P w K mg base k fa fd [x] sp) (hbind : ∀ (s : Shared) (u : Value), BindsTo s fd ⟨[u], []⟩ [(x, u)])
    (hsp : ∀ H : Hp, Only H → SqL K H a (ns.map V.int) → sp [.ref a] H (fun v _ => v = .bl true) fun _ _ _ => False) :
    codeAny (model P w) callerA (.call (.ref fa) ⟨[.ref a], []⟩) (fun r s' => r = .ok (.ret (.bool true)) ∧ OldK t.heap s'.heap ∧ s'.os = t.os ∧ AllBare s'.gens) t := by
  have rv := vals_ints hi
  have lv := hi.length
  have main : ∀ H : Hp, Only H → SqL K H a (ns.map V.int) → HOk P w H t.heap → (∀ b, H b ≠ none → b = a) → (H a ≠ none → K.lookup a = none) →
      codeAny (model P w) callerA (.call (.ref fa) ⟨[.ref a], []⟩) (fun r s' => r = .ok (.ret (.bool true)) ∧ OldK t.heap s'.heap ∧ s'.os = t.os ∧ AllBare s'.gens) t := by
    intro H hO hS hok one apart
    have free : ∀ {b : Addr}, b ≠ a → H b = none := fun {b} h => by
      cases q : H b with
      | none => rfl
      | some u => exact absurd (one b (by rw [q]; simp)) h
    have dict : ∀ {b : Addr} {o : Obj} {es : Array DictEntry} {ep : Nat}, t.heap.get? b = some o → o.data = .dict es ep → H b = none := fun {b o es ep} e d => free fun eb => by
      rw [eb, ha] at e
      cases e
      exact nomatch (show Data.seq vs.toArray _ = Data.dict es ep from d)
    have names : ∀ {b : Addr} {m : Str → Option Value}, t.heap.Ns b m → (hidT t.heap H).Ns b m := fun {b m} h => by
      obtain ⟨o, es, ep, e, d, r⟩ := h
      exact ⟨o, es, ep, hidT_get e (dict e d), d, r⟩
    have written : K.In (hidT t.heap H) := fun b o e => hidT_get (KX b o e) <| by
      by_cases eb : b = a
      · cases q : H b with
        | none => rfl
        | some u =>
          have z := apart (by rw [← eb, q]; simp)
          rw [← eb, e] at z
          cases z
      · exact free eb
    have mod : Mod K mg (hidT t.heap H) := by
      obtain ⟨mc, h1, h2⟩ := hlim
      exact ⟨written, names hns, ⟨mb, names hb, hbb⟩, mc, names h1, h2⟩
    have env : Env0 P w K mg (hidT t.heap H) callerA [] t H := ⟨rfl, mod, fun b o => of_hidT, Nat.le_of_eq (hidT_size _ _), trivial, fun b hb => (nomatch (show b ∈ ([] : List Addr) from hb)), hok, .of_eq hg⟩
    apply codeAny_mono ((G _ written (names hns)).run callerA [] t H ⟨[.ref a], []⟩ [.ref a] [.ref a] _ _ rfl hr env (hbind t (.ref a)) (.cons rfl .nil) (hsp H hO hS))
    intro r s' h
    match r, h with
    | .error e, ⟨_, _, _, _, _, _, _, _, _, _, _, _, z⟩ => exact z.elim
    | .ok (.ret u), ⟨v, H', os, bare, un, hok', rr, q⟩ =>
      have q2 : v = .bl true := q
      rw [q2] at rr
      have eu : u = Value.bool true := rr
      rw [eu]
      refine ⟨rfl, OldK.of_keep fun b o e => ?_, os, bare⟩
      rcases hO b with z | ⟨ob, xs, z⟩
      · exact un.keep b o e z (fun m => by cases m) (fun m => by cases m)
      · have e1 := (hok b _ z).1
        have e2 := (hok' b _ (un.frzs b ob _ z)).1
        rw [e] at e1
        cases e1
        exact e2
  cases hk : K.lookup a with
  | some o =>
    have e := KX a o hk
    rw [ha] at e
    cases e
    apply main (fun _ => none) (fun _ => .inl rfl) (.inr ⟨_, vs.toArray, _, hk, rfl, rfl, rfl, ?_, ?_⟩)
    · exact fun b u z => nomatch (show (none : Option HO) = some u from z)
    · exact fun b z => absurd rfl z
    · exact fun z => absurd rfl z
    · rw [List.size_toArray, lv]
      exact hl
    · simpa using rv
  | none =>
    have tr : ∀ b, (fun b => if b = a then some (HO.frz { cls := .type "list", data := .seq vs.toArray } (.lst (ns.map V.int))) else none) b ≠ none → b = a := fun b z => by
      by_cases hb : b = a
      · exact hb
      · exact absurd (if_neg hb) z
    apply main (fun b => if b = a then some (.frz { cls := .type "list", data := .seq vs.toArray } (.lst (ns.map V.int))) else none) (fun b => ?_) (.inl (.inr ⟨_, if_pos rfl⟩)) (fun b u z => ?_) tr fun _ => hk
    · by_cases hb : b = a
      · exact .inr ⟨_, _, if_pos hb⟩
      · exact .inl (if_neg hb)
    · have hb := tr b (by rw [z]; simp)
      have z2 := (if_pos hb).symm.trans z
      cases z2
      rw [hb]
      exact ⟨ha, by rw [List.length_map]; exact hl, vs, _, rv, ha⟩
theorem walk_ofG {l : PySem.W.OpenLaw} {n k : Nat} {q : Program} {loose : List Str} {XP : (Str → Option Value) → Heap → Prop} {YP : World → Heap → Prop} {d : DefRec} {x : Str} (hn : l.most = some n) (hn2 : n ≤ sizeLine) (hdf : d.params.defaults = []) (hr : Room k callerA)
    (G : ∀ (w : World) (mg : Str → Option Value) (fa : Addr) (h : Heap), YP w h → h.Ns mainGlobals mg → mg d.name = some (.ref fa) → ∃ (K : PySem.W.Frag) (fd : FuncData) (sp : Sp), K.In h ∧ (∀ (s : Shared) (u : Value), BindsTo s fd ⟨[u], []⟩ [(x, u)]) ∧
      (∀ (H : Hp) (a : Addr) (ns : List Int), ns.length ≤ n → Only H → SqL K H a (ns.map V.int) → sp [.ref a] H (fun v _ => v = .bl true) fun _ _ _ => False) ∧ ∀ base : Heap, K.In base → base.Ns mainGlobals mg → FnG l.prog w K mg base k fa fd [x] sp) :
    PySem.W.WalkO q loose XP YP l.row.toRowW d [] (fun f vs => PySem.call f vs) := by
  apply Att.attach_call hn hdf
  intro w s₀ s₁ mg mb fa o pm cd doc a vs ns g Y ho hd hcd hmg hobj hints hlen hg
  obtain ⟨K, fd, sp, KX, hb, hsp, hG⟩ := G w mg fa _ Y g.T.g hmg
  exact law_callG KX g.T.g g.T.b g.T.builtins g.T.nolimit hg hobj hints (Nat.le_trans hlen hn2) hr hG hb fun H hO hS => hsp H a ns hlen hO hS
/-! ### the head's facts, and what stands where sys.modules stands -/
def sysB (K : PySem.W.Frag) : Bool := match K.lookup sysModules with
  | some o => decide (o.cls = .type "dict")
  | none => false
theorem sysB_ok {K : PySem.W.Frag} (h : sysB K = true) : SysOk K := by
  unfold sysB at h
  split at h
  · rename_i o e
    exact ⟨o, e, of_decide_eq_true h⟩
  · cases h
/-- a class of lots as the text has it: its names; its __init__ with its names; the property's getter with its names -/
structure LotTx where
  cn : String
  fl : String
  fp : String
  ini : He.DefD
  iN : List Str
  get : He.DefD
  gN : List Str
  eq : He.DefD
  eN : List Str
  ln : He.DefD
  lnN : List Str
def LotTx.g (q : LotTx) : LotG := ⟨q.cn, q.fl, q.fp⟩
def LotTx.C (K : PySem.W.Frag) (q : LotTx) : Addr := He.ga K (Str.ofString q.cn)
/-- where the property stands, where its getter stands -/
def LotTx.p (K : PySem.W.Frag) (q : LotTx) : Addr := He.ma K (q.C K) (Str.ofString q.fp)
def LotTx.a (K : PySem.W.Frag) (q : LotTx) : Addr := match PySem.W.recIn K (q.p K) "property" with
  | some (.ref z :: _) => z
  | _ => 0
def funcAt (K : PySem.W.Frag) (z : Addr) : Option FuncData := match K.lookup z with
  | some o => (match o.data with
    | .func fd => some fd
    | _ => none)
  | none => none
def seenFn (fd : FuncData) : Str × Str × Arguments × FuncBody × Scope × Addr × List (Str × Addr) × Addr := (fd.name, fd.qualname, fd.params, fd.body, fd.scope, fd.globals, fd.closure, fd.builtins)
def LotTx.seen (K : PySem.W.Frag) (q : LotTx) : He.FnW := (funcAt K (q.a K)).map seenFn
/-- a written empty tuple -/
def noTupB (K : PySem.W.Frag) (a : Addr) : Bool := match K.lookup a with
  | some o => (match o.data with
    | .seq its _ => decide (o.cls = .type "tuple") && its.toList.isEmpty
    | _ => false)
  | none => false
theorem noTupB_ok {K : PySem.W.Frag} {a : Addr} (h : noTupB K a = true) : KTup K a [] := by
  unfold noTupB at h
  split at h
  · rename_i o e
    split at h
    · rename_i its n e2
      simp only [Bool.and_eq_true, decide_eq_true_eq, List.isEmpty_iff] at h
      have hs : its.size = 0 := by rw [← Array.length_toList, h.2]; rfl
      exact ⟨o, its, n, e, h.1, e2, by rw [hs]; exact Nat.zero_le _, by rw [h.2]; exact .nil⟩
    · cases h
  · cases h
/-- what == and != and isinstance ask of the class -/
def LotTx.ok2 (K : PySem.W.Frag) (q : LotTx) : Bool :=
  decide (PySem.W.findIn K (.ref (q.C K)) "__ne__" = some (some (.builtin "object.__ne__"))) && decide (PySem.W.findIn K (.ref (q.C K)) "__class__" = some (some (.builtin "object.__class__"))) && decide (PySem.W.specialIn K (.builtin "object.__class__") "__get__" = some (some (.builtin "getset_descriptor.__get__"))) &&
  decide (PySem.W.takesIn K (.builtin "object.__class__") = some true) && decide (PySem.W.mroIn K (q.C K) (.type "object") = some true) && noTupB K (He.dflAt q.ini.at_ 0 K)
def LotTx.ok (K : PySem.W.Frag) (q : LotTx) : Bool := q.ok2 K &&
  (decide (PySem.W.findIn K (.ref (q.C K)) (Str.ofString q.fp) = some (some (.ref (q.p K)))) && decide (PySem.W.specialIn K (.ref (q.p K)) "__get__" = some (some (.builtin "property.__get__"))) && decide (PySem.W.takesIn K (.ref (q.p K)) = some true) &&
  (match PySem.W.recIn K (q.p K) "property" with
    | some (.ref _ :: _) => true
    | _ => false) &&
  PySem.W.keepIn K (.ref (q.a K)) && (match funcAt K (q.a K) with
    | some fd => PySem.W.codeIn K fd.code q.get.qual && decide (fd.defaults = .none)
    | none => false))
theorem LotTx.prop {K : PySem.W.Frag} {q : LotTx} (h : q.ok K = true) : PropOf K (q.C K) (Str.ofString q.fp) (q.p K) (q.a K) := by
  unfold LotTx.ok at h
  simp only [Bool.and_eq_true, decide_eq_true_eq] at h
  obtain ⟨_, ⟨⟨⟨⟨h1, h2⟩, h3⟩, h4⟩, h5⟩, h6⟩ := h
  refine ⟨h1, h2, h3, ?_⟩
  split at h4
  · rename_i z rest e
    refine ⟨rest, ?_⟩
    unfold LotTx.a
    rw [e]
  · cases h4
theorem LotTx.fun_ {K : PySem.W.Frag} {q : LotTx} (h : q.ok K = true) (e : q.seen K = q.get.val) : ∃ gd, FunD K q.get.name q.get.qual q.get.params q.get.body q.get.scope [] [] (q.a K) gd := by
  unfold LotTx.ok at h
  simp only [Bool.and_eq_true, decide_eq_true_eq] at h
  obtain ⟨_, ⟨⟨⟨⟨_, _⟩, _⟩, _⟩, h5⟩, h6⟩ := h
  unfold LotTx.seen funcAt at e
  unfold funcAt at h6
  cases hl : K.lookup (q.a K) with
  | none => rw [hl] at h6; cases h6
  | some o =>
    obtain ⟨oc, od, dt, osl⟩ := o
    rw [hl] at h6 e
    cases dt with
    | func fd =>
      obtain ⟨b1, b2, b3, b4, b5, b6, b7, b8, b9, b10, b11, b12, b13, b14, b15⟩ := fd
      have e2 : (some (b1, b2, b3, b4, b5, b6, b7, b15) : He.FnW) = q.get.val := e
      unfold He.DefD.val at e2
      simp only [Option.some.injEq, Prod.mk.injEq] at e2
      obtain ⟨rfl, rfl, rfl, rfl, rfl, rfl, rfl, rfl⟩ := e2
      simp only [Bool.and_eq_true, decide_eq_true_eq] at h6
      obtain ⟨h7, h8⟩ := h6
      have h8 : b8 = .none := h8
      subst h8
      exact ⟨_, ⟨oc, od, .none, b9, b10, b11, b12, b13, b14, osl, rfl, hl, h7, .inl ⟨rfl, rfl⟩, .inl rfl⟩, h5⟩
    | _ => cases h6
def obsX (fa : List He.Fa) (fn : List He.DefD) (lt : List LotTx) (K : PySem.W.Frag) : He.AlD := ((He.obsD fa fn K).1 && sysB K && lt.all (LotTx.ok K), (He.obsD fa fn K).2 ++ lt.map (LotTx.seen K))
def valX (fn : List He.DefD) (lt : List LotTx) : He.AlD := (true, fn.map He.DefD.val ++ lt.map fun q => q.get.val)
def SaysX (fa : List He.Fa) (fn : List He.DefD) (lt : List LotTx) (K : PySem.W.Frag) : Prop := obsX fa fn lt K = valX fn lt
theorem map_same {α β : Type} {f g : α → β} : ∀ {l : List α}, l.map f = l.map g → ∀ x ∈ l, f x = g x
  | [], _, x, h => by cases h
  | y :: l, e, x, h => by
    simp only [List.map_cons, List.cons.injEq] at e
    rcases List.mem_cons.mp h with rfl | h
    · exact e.1
    · exact map_same e.2 x h
theorem SaysX.both {fa : List He.Fa} {fn : List He.DefD} {lt : List LotTx} {K : PySem.W.Frag} (h : SaysX fa fn lt K) : He.SaysD fa fn K ∧ SysOk K ∧ ∀ q ∈ lt, q.ok K = true ∧ q.seen K = q.get.val := by
  have h1 : ((He.obsD fa fn K).1 && sysB K && lt.all (LotTx.ok K)) = true := congrArg Prod.fst h
  have h2 : (He.obsD fa fn K).2 ++ lt.map (LotTx.seen K) = fn.map He.DefD.val ++ lt.map fun q => q.get.val := congrArg Prod.snd h
  have h3 := List.append_inj h2 (by show (fn.map _).length = _; rw [List.length_map, List.length_map])
  simp only [Bool.and_eq_true] at h1
  exact ⟨Prod.ext h1.1.1 h3.1, sysB_ok h1.1.2, fun q hq => ⟨List.all_eq_true.mp h1.2 q hq, map_same h3.2 q hq⟩⟩
def obsXG (n : Nat) (fa : List He.Fa) (fn : List He.DefD) (lt : List LotTx) (g : Addr → Option Obj) : He.AlD := obsX fa fn lt (He.frG g (He.asD g n ++ [sysModules]))
def hookX (n : Nat) (fa : List He.Fa) (fn : List He.DefD) (lt : List LotTx) : PySem.W.Hook where
  α := He.AlD
  obs := fun sh => obsXG n fa fn lt sh.heap.get?
  val := fun _ => valX fn lt
  says := fun _ hp => ∃ fr : PySem.W.Frag, fr.In hp ∧ SaysX fa fn lt fr
  of := fun _ _ q => ⟨_, He.frG_in, q⟩
  keeps := fun _ _ _ z kp => ⟨z.choose, PySem.W.Frag.In.keeps z.choose_spec.1 kp, z.choose_spec.2⟩
theorem obsXG_eq {n : Nat} {fa : List He.Fa} {fn : List He.DefD} {lt : List LotTx} {g : Addr → Option Obj} {sh : Shared} (h : ∀ a, g a = sh.heap.get? a) : obsXG n fa fn lt g = (hookX n fa fn lt).obs sh := by
  have : g = sh.heap.get? := funext h
  subst this
  rfl
/-- nothing is known of an exception -/
def noX : XRep := fun _ _ _ _ _ => False
/-- the law's promise, from what the small language says -/
theorem law_sp {K : PySem.W.Frag} {H : Hp} {a : Addr} {ns : List Int} {φ : List M → FOut} (hS : SqL K H a (ns.map V.int)) (h : ∃ fin, φ [.sc ns] = .ret (.sh (.bool true)) fin) : SpMi K noX φ [.ref a] H (fun v _ => v = .bl true) fun _ _ _ => False := by
  obtain ⟨fin, e⟩ := h
  have rep : RepM K (fun b => b = a ∧ H a ≠ none) H (fun _ => False) (.ref a) (.sc ns) := by
    refine ⟨a, rfl, ?_⟩
    rcases hS with r | r
    · refine .inl ⟨⟨rfl, ?_⟩, r⟩
      rcases r with r | ⟨o, r⟩
      · rw [r]; simp
      · rw [r]; simp
    · exact .inr r
  refine ⟨fun b => b = a ∧ H a ≠ none, fun _ => False, [.sc ns], ⟨.cons rep .nil, fun b hb => by rw [hb.1]; exact hb.2, fun b hb => hb.elim, fun i j b m m' ne e1 e2 o1 o2 v1 v2 => ?_, fun b hb => hb.elim⟩, ?_⟩
  · have : m = .sc ns := by
      cases i with
      | zero => simpa using e1.symm
      | succ i => simp at e1
    subst this
    cases o1
  · rw [e]
    intro F' H' v C fo ro
    cases ro
    rfl
end MI
namespace MI
open PySem PySem.Spec PyProof.Rows L2
/-! ### a head over the table -/
def place {α : Type} : List Arg → List α → List α → List α
  | [], _, _ => []
  | .e k :: src, all, ms => (match all[k]? with
    | some v => v :: place src all ms
    | none => place src all ms)
  | .d _ :: src, all, m :: ms => m :: place src all ms
  | .d _ :: src, all, [] => place src all []
def dvIs : He.Dv → D → Bool
  | .non, .none => true
  | .bl b, .bool c => b == c
  | .int i, .int j => i == j
  | .str x, .str y => x == y
  | _, _ => false
theorem dvIs_ok {K : PySem.W.Frag} {F : Fz} {H : Hp} {v : He.Dv} {d : D} (h : dvIs v d = true) : Dat K F H (v.v K) d := by
  cases v <;> cases d <;> first | (cases h; done) | skip
  · exact .non
  · simp [dvIs] at h; subst h; exact .bl _
  · simp [dvIs] at h; subst h; exact .int _
  · simp [dvIs] at h; subst h; exact .str _
def srcB (n : Nat) : List Arg → List He.Dv → Bool
  | [], _ => true
  | .e k :: src, ms => decide (k < n) && srcB n src ms
  | .d x :: src, m :: ms => dvIs m x && srcB n src ms
  | .d _ :: _, [] => false
theorem pick_of {K : PySem.W.Frag} {all : List V} : ∀ {src : List Arg} {ms : List He.Dv}, srcB all.length src ms = true → Pick K all src (place src all (ms.map (He.Dv.v K)))
  | [], _, _ => .nil
  | .e k :: src, ms, h => by
    have h' : k < all.length ∧ srcB all.length src ms = true := by simpa [srcB] using h
    have e : all[k]? = some all[k] := by simp [h'.1]
    unfold place
    rw [e]
    exact .e e (pick_of h'.2)
  | .d x :: src, m :: ms, h => by
    have h' : dvIs m x = true ∧ srcB all.length src ms = true := by simpa [srcB] using h
    exact .d (fun F H => dvIs_ok h'.1) (pick_of h'.2)
  | .d _ :: _, [], h => by cases h
theorem vals_get {vs : List V} {us : List Value} (r : Vals vs us) (k : Nat) : (vs[k]? = none ∧ us[k]? = none) ∨ ∃ v u, vs[k]? = some v ∧ us[k]? = some u ∧ RelV v u := by
  cases e : vs[k]? with
  | none =>
    have := List.getElem?_eq_none_iff.mp e
    exact .inl ⟨rfl, List.getElem?_eq_none_iff.mpr (by rw [← r.length]; exact this)⟩
  | some v =>
    obtain ⟨u, h1, h2⟩ := r.get e
    exact .inr ⟨v, u, rfl, h1, h2⟩
theorem place_rel {vs : List V} {us : List Value} (r : Vals vs us) : ∀ (src : List Arg) {mz : List V} {mv : List Value}, Vals mz mv → Vals (place src vs mz) (place src us mv)
  | [], _, _, _ => .nil
  | .d _ :: src, _, _, .nil => place_rel r src .nil
  | .d _ :: src, _, _, .cons a b => .cons a (place_rel r src b)
  | .e k :: src, _, _, m => by
    unfold place
    rcases vals_get r k with ⟨e1, e2⟩ | ⟨v, u, e1, e2, h⟩
    · rw [e1, e2]; exact place_rel r src m
    · rw [e1, e2]; exact .cons h (place_rel r src m)
/-- the keyword-only names that are not given -/
def lackK (d : Df) (sh : Shape) : List (Str × He.Dv) := d.kwd.filter fun q => !(sh.ks.contains q.1)
def nDfl (sh : Shape) : Nat := (sh.src.filter fun | .d _ => true | .e _ => false).length
def BindSh (d : Df) (sh : Shape) : Prop := match d.dfl, d.kwd with
  | [], [] => ∀ (kV doc pm : Value) (an : Option Addr) (cdv ct : Value) (us ws : List Value), us.length = sh.n → ws.length = sh.ks.length →
      bindArgs (PySem.W.fnOf d.name d.name d.params d.body d.scope .none kV doc pm an cdv ct) ⟨us, sh.ks.zip ws⟩ = pure (d.ps.zip (place sh.src (us ++ ws) []))
  | [], _ :: _ => ∀ (D : Addr) (doc pm : Value) (an : Option Addr) (cdv ct : Value) (us mv ws : List Value), us.length = sh.n → mv.length = (lackK d sh).length → ws.length = sh.ks.length →
      KwChain D (((lackK d sh).map (·.1)).zip mv) (bindArgs (PySem.W.fnOf d.name d.name d.params d.body d.scope .none (.ref D) doc pm an cdv ct) ⟨us, sh.ks.zip ws⟩) (d.ps.zip (place sh.src (us ++ ws) mv))
  | _ :: _, _ => ∀ (T : Addr) (kV doc pm : Value) (an : Option Addr) (cdv ct : Value) (us its ws : List Value), us.length = sh.n → its.length = d.dfl.length → ws.length = sh.ks.length →
      ∃ k, bindArgs (PySem.W.fnOf d.name d.name d.params d.body d.scope (.ref T) kV doc pm an cdv ct) ⟨us, sh.ks.zip ws⟩ = seqItems? (.ref T) >>= k ∧ k (some its.toArray) = pure (d.ps.zip (place sh.src (us ++ ws) (its.drop (d.dfl.length - nDfl sh))))
def StarSh (d : Df) : Prop := d.star = true → d.dfl = [] ∧ ∃ ps pv, d.ps = ps ++ [pv] ∧ ∀ (kV doc pm : Value) (an : Option Addr) (cdv ct : Value), StarBind (PySem.W.fnOf d.name d.name d.params d.body d.scope .none kV doc pm an cdv ct) ps pv
def BindOk (d : Df) : Prop := (∀ sh ∈ d.shapes, BindSh d sh) ∧ StarSh d
/-- the defaults that fill up -/
def fillOf (d : Df) (sh : Shape) : List He.Dv := match d.dfl with
  | [] => (lackK d sh).map (·.2)
  | _ :: _ => d.dfl.drop (d.dfl.length - nDfl sh)
def shB (d : Df) : Bool := d.shapes.all fun sh => srcB (sh.n + sh.ks.length) sh.src (fillOf d sh)
theorem rel3 {vs zs mz : List V} {us ws mv : List Value} (src : List Arg) (r : Vals vs us) (z : Vals zs ws) (m : Vals mz mv) : Vals (place src (vs ++ zs) mz) (place src (us ++ ws) mv) := place_rel (r.append z) src m
theorem bind_ok {K : PySem.W.Frag} {d : Df} {f : Addr} {fd : FuncData} (F : d.Fun K f fd) (hb : BindOk d) (hs : shB d = true) : ∀ sh ∈ d.shapes, ∃ g gV, KBn K fd d.ps sh.n sh.ks g gV ∧ ∀ vs zs : List V, vs.length = sh.n → zs.length = sh.ks.length → Pick K (vs ++ zs) sh.src (gV vs zs) := by
  intro sh hm
  have hb1 := hb.1 sh hm
  have hs1 : srcB (sh.n + sh.ks.length) sh.src (fillOf d sh) = true := List.all_eq_true.mp hs sh hm
  have pk : ∀ (vs zs : List V), vs.length = sh.n → zs.length = sh.ks.length → Pick K (vs ++ zs) sh.src (place sh.src (vs ++ zs) ((fillOf d sh).map (He.Dv.v K))) := fun vs zs l1 l2 => pick_of (by rw [List.length_append, l1, l2]; exact hs1)
  unfold BindSh at hb1
  unfold fillOf at pk
  split at hb1
  · rename_i e1 e2
    rw [e1] at pk
    have el : lackK d sh = [] := by unfold lackK; rw [e2]; rfl
    rw [el] at pk
    refine ⟨fun us ws => place sh.src (us ++ ws) [], fun vs zs => place sh.src (vs ++ zs) [], ⟨fun s us ws X l1 l2 => ?_, fun r1 r2 => rel3 _ r1 r2 .nil⟩, pk⟩
    obtain ⟨oc, od, dV, kV, doc, pm, an, cdv, ct, osl, rfl, lk, hcd, hD, hK⟩ := F.ex
    rcases hD with ⟨_, rfl⟩ | ⟨e, _⟩
    · exact .of_eq (hb1 kV doc pm an cdv ct us ws l1 l2)
    · exact absurd (by unfold Df.dvs; rw [e1]; rfl) e
  · rename_i q qs e1 e2
    rw [e1] at pk
    have F' : FunD K d.name d.name d.params d.body d.scope [] (d.kws K) f fd := by
      have F0 : FunD K d.name d.name d.params d.body d.scope (d.dvs K) (d.kws K) f fd := F
      rwa [show d.dvs K = [] by unfold Df.dvs; rw [e1]; rfl] at F0
    obtain ⟨mv, kb⟩ := FunD.kbinds0 (ps := d.ps) F' sh.n sh.ks ((lackK d sh).map fun q => (q.1, q.2.v K)) (fun {α} us mv ws => place sh.src (us ++ ws) mv) (by unfold Df.kws; rw [e2]; exact List.cons_ne_nil _ _) (fun z hz => by
      obtain ⟨y, hy, rfl⟩ := List.mem_map.mp hz
      exact List.mem_map.mpr ⟨y, (List.mem_filter.mp hy).1, rfl⟩) (fun r1 r2 r3 => rel3 _ r1 r3 r2) (fun D doc pm an cdv ct us mv ws l1 l2 l3 => by
      have := hb1 D doc pm an cdv ct us mv ws l1 (by simpa using l2) l3
      simpa [List.map_map, Function.comp_def] using this)
    have em : ((lackK d sh).map fun q => (q.1, q.2.v K)).map (·.2) = ((lackK d sh).map (·.2)).map (He.Dv.v K) := by simp [List.map_map, Function.comp_def]
    refine ⟨_, _, kb, ?_⟩
    rw [em]
    exact pk
  · rename_i q qs e1
    rw [e1] at pk
    have hne : d.dvs K ≠ [] := by unfold Df.dvs; rw [e1]; exact List.cons_ne_nil _ _
    have ll : (d.dvs K).length = d.dfl.length := by unfold Df.dvs; rw [List.length_map]
    obtain ⟨its, kb⟩ := FunD.kbindsD (ps := d.ps) F sh.n sh.ks (fun {α} us its ws => place sh.src (us ++ ws) (its.drop (d.dfl.length - nDfl sh))) hne (fun r1 r2 r3 => rel3 _ r1 r3 (r2.drop _)) (fun T kV doc pm an cdv ct us its ws l1 l2 l3 => hb1 T kV doc pm an cdv ct us its ws l1 (by rw [l2, ll]) l3)
    have em : (d.dvs K).drop (d.dfl.length - nDfl sh) = (d.dfl.drop (d.dfl.length - nDfl sh)).map (He.Dv.v K) := by unfold Df.dvs; rw [List.map_drop]
    refine ⟨_, _, kb, ?_⟩
    rw [em, e1]
    exact pk
theorem star_bind {K : PySem.W.Frag} {d : Df} {f : Addr} {fd : FuncData} (F : d.Fun K f fd) (hb : BindOk d) (hs : d.star = true) : ∃ ps pv, d.ps = ps ++ [pv] ∧ StarBind fd ps pv := by
  obtain ⟨e0, ps, pv, e1, e2⟩ := hb.2 hs
  obtain ⟨oc, od, dV, kV, doc, pm, an, cdv, ct, osl, rfl, lk, hcd, hD, hK⟩ := F.ex
  rcases hD with ⟨_, rfl⟩ | ⟨e, _⟩
  · exact ⟨ps, pv, e1, e2 kV doc pm an cdv ct⟩
  · exact absurd (by unfold Df.dvs; rw [e0]; rfl) e
def fnOfD (defs : List Df) (lt : List LotTx) : List He.DefD := (defs.map fun d => ⟨(d.name, none), d.name, d.name, d.params, d.body, d.scope, d.dfl, d.kwd⟩) ++ (lt.map (·.ini) ++ (lt.map (·.eq) ++ lt.map (·.ln)))
def LotTx.fas (q : LotTx) : List He.Fa := [.glo (Str.ofString q.cn), .cls (Str.ofString q.cn), .noat (Str.ofString q.cn) (Str.ofString q.fl), .mkr (Str.ofString q.cn), .meth (Str.ofString q.cn) "__eq__", .meth (Str.ofString q.cn) "__len__"]
inductive Cn where
  | i (n : Int)
  | s (z : Str)
def Cn.d : Cn → D
  | .i n => .int n
  | .s z => .str z
def Cn.fa (x : Str) : Cn → He.Fa
  | .i n => .int x n
  | .s z => .str x z
def faOf (defs : List Df) (cs : List (Str × Cn)) (lt : List LotTx) : List He.Fa := (defs.map fun d => .glo d.name) ++ (noBs.map .free) ++ (cs.map fun p => p.2.fa p.1) ++ lt.flatMap LotTx.fas
/-- a class's j-th statement -/
def clsAt (j : Nat) : Stmt → Stmt
  | .ClassDef _ _ _ b _ _ _ _ _ _ _ => b.getD j (.Pass ⟨0, 0, 0, 0⟩)
  | s => s
/-- what a class of lots must have in its text -/
structure LotTx.Good (q : LotTx) : Prop where
  at_ : q.ini.at_ = (Str.ofString q.cn, some ("__init__" : Str))
  one : q.ini.dfl.length = 1
  chk : lotB q.iN q.ini.scope (Str.ofString q.fl) q.ini.body = true
  sc : FnScope q.iN ["self", "gates"] q.ini.scope
  bi : ∀ (T : Addr) (kV doc pm : Value) (an : Option Addr) (cdv ct : Value) (us its : List Value), us.length = 2 → its.length = 1 →
    ∃ k, bindArgs (PySem.W.fnOf q.ini.name q.ini.qual q.ini.params q.ini.body q.ini.scope (.ref T) kV doc pm an cdv ct) ⟨us, []⟩ = seqItems? (.ref T) >>= k ∧ k (some its.toArray) = pure ((["self", "gates"] : List Str).zip (us ++ its.drop 1))
  gsc : FnScope q.gN ["self"] q.get.scope
  gN : q.gN[0]? = some ("self" : Str)
  gb : ∃ p1 p2 p3, q.get.body = [.Return (some (.Attribute (.Name "self" p1) (Str.ofString q.fl) p2)) p3]
  gi : ∀ (kV doc pm : Value) (an : Option Addr) (cdv ct : Value) (us : List Value), us.length = 1 → bindArgs (PySem.W.fnOf q.get.name q.get.qual q.get.params q.get.body q.get.scope .none kV doc pm an cdv ct) ⟨us, []⟩ = pure ((["self"] : List Str).zip us)
  eat : q.eq.at_ = (Str.ofString q.cn, some ("__eq__" : Str))
  echk : eqB q.eN q.eq.scope (Str.ofString q.cn) (Str.ofString q.fl) q.eq.body = true
  esc : FnScope q.eN ["self", "other"] q.eq.scope
  edf : q.eq.dfl = []
  ei : ∀ (kV doc pm : Value) (an : Option Addr) (cdv ct : Value) (us : List Value), us.length = 2 → bindArgs (PySem.W.fnOf q.eq.name q.eq.qual q.eq.params q.eq.body q.eq.scope .none kV doc pm an cdv ct) ⟨us, []⟩ = pure ((["self", "other"] : List Str).zip us)
  lat : q.ln.at_ = (Str.ofString q.cn, some ("__len__" : Str))
  lchk : lenB q.lnN q.ln.scope (Str.ofString q.fl) q.ln.body = true
  lsc : FnScope q.lnN ["self"] q.ln.scope
  ldf : q.ln.dfl = []
  li : ∀ (kV doc pm : Value) (an : Option Addr) (cdv ct : Value) (us : List Value), us.length = 1 → bindArgs (PySem.W.fnOf q.ln.name q.ln.qual q.ln.params q.ln.body q.ln.scope .none kV doc pm an cdv ct) ⟨us, []⟩ = pure ((["self"] : List Str).zip us)
  idf : q.ini.dfl = [.adr (He.dflAt q.ini.at_ 0)]
  b0 : ∀ (T : Addr) (kV doc pm : Value) (an : Option Addr) (cdv ct : Value) (us its : List Value), us.length = 1 → its.length = 1 →
    ∃ k, bindArgs (PySem.W.fnOf q.ini.name q.ini.qual q.ini.params q.ini.body q.ini.scope (.ref T) kV doc pm an cdv ct) ⟨us, []⟩ = seqItems? (.ref T) >>= k ∧ k (some its.toArray) = pure ((["self", "gates"] : List Str).zip (us ++ its.drop 0))
theorem zero_hd {K : PySem.W.Frag} {h : Heap} {mg : Str → Option Value} {q : LotTx} {fd : FuncData} (X : K.In h) (Gl : h.Ns mainGlobals mg) (G : q.Good) (fact : ∀ f ∈ q.fas, f.ok K = true) (hf : q.ok K = true) (D : FunD K q.ini.name q.ini.qual q.ini.params q.ini.body q.ini.scope (q.ini.dvs K) (q.ini.kws K) (He.fAd K q.ini.at_) fd)
    (n1 : mg "tuple" = none) (n2 : mg "sorted" = none) (n3 : mg "set" = none) : LotZN K mg q.g := by
  have cl := He.cls_ok (fact (.cls (Str.ofString q.cn)) (by unfold LotTx.fas; simp))
  have na := He.noat_ok (fact (.noat (Str.ofString q.cn) (Str.ofString q.fl)) (by unfold LotTx.fas; simp))
  have mk := He.mkr_ok (fact (.mkr (Str.ofString q.cn)) (by unfold LotTx.fas; simp))
  have gl := He.glo_ok X Gl (fact (.glo (Str.ofString q.cn)) (by unfold LotTx.fas; simp))
  have h2 : q.ok2 K = true := by
    unfold LotTx.ok at hf
    simp only [Bool.and_eq_true] at hf
    exact hf.1
  unfold LotTx.ok2 at h2
  simp only [Bool.and_eq_true, decide_eq_true_eq] at h2
  have kt := noTupB_ok h2.2
  have ed : q.ini.dvs K = [V.ref (He.dflAt q.ini.at_ 0 K)] := by unfold He.DefD.dvs; rw [G.idf]; rfl
  have l1 : (q.ini.dvs K).length = 1 := by rw [ed]; rfl
  obtain ⟨ds, v1, b1⟩ := FunD.binds1 (ps := ["self", "gates"]) D 1 0 (fun e => by rw [e] at l1; cases l1) (by rw [l1]; rfl) fun T kV doc pm an cdv ct us its h1 h2 => G.b0 T kV doc pm an cdv ct us its h1 (by rw [h2, l1])
  rw [ed] at v1
  obtain ⟨T, hT⟩ : ∃ T, T = He.dflAt q.ini.at_ 0 K := ⟨_, rfl⟩
  rw [← hT] at v1 kt
  have eds : ds = [Value.ref T] := by
    cases v1 with
    | cons a b =>
      cases b
      cases a
      rfl
  subst eds
  have ea : He.fAd K q.ini.at_ = He.ma K (q.C K) "__init__" := by rw [G.at_]; rfl
  rw [ea] at D
  exact ⟨q.C K, _, T, fd, rfl, gl, mk, b1, kt, fun P w base k => lot_init D G.sc G.chk cl na n1 n2 n3⟩
theorem eq_hd {K : PySem.W.Frag} {h : Heap} {mg : Str → Option Value} {q : LotTx} {fd : FuncData} (X : K.In h) (Gl : h.Ns mainGlobals mg) (G : q.Good) (fact : ∀ f ∈ q.fas, f.ok K = true) (hf : q.ok K = true) (D : FunD K q.eq.name q.eq.qual q.eq.params q.eq.body q.eq.scope (q.eq.dvs K) (q.eq.kws K) (He.fAd K q.eq.at_) fd)
    (n1 : mg "isinstance" = none) : LotN K mg q.g := by
  have cl := He.cls_ok (fact (.cls (Str.ofString q.cn)) (by unfold LotTx.fas; simp))
  have na := He.noat_ok (fact (.noat (Str.ofString q.cn) (Str.ofString q.fl)) (by unfold LotTx.fas; simp))
  have me := He.meth_ok (fact (.meth (Str.ofString q.cn) "__eq__") (by unfold LotTx.fas; simp))
  have gl := He.glo_ok X Gl (fact (.glo (Str.ofString q.cn)) (by unfold LotTx.fas; simp))
  have h2 : q.ok2 K = true := by
    unfold LotTx.ok at hf
    simp only [Bool.and_eq_true] at hf
    exact hf.1
  unfold LotTx.ok2 at h2
  simp only [Bool.and_eq_true, decide_eq_true_eq] at h2
  obtain ⟨⟨⟨⟨⟨o1, o2⟩, o3⟩, o4⟩, o5⟩, _⟩ := h2
  have oc : OwnC K (q.C K) := ⟨cl, o2, o3, o4, o5⟩
  have e0 : q.eq.dvs K = [] := by unfold He.DefD.dvs; rw [G.edf]; rfl
  have ea : He.fAd K q.eq.at_ = He.ma K (q.C K) "__eq__" := by rw [G.eat]; rfl
  rw [ea, e0] at D
  have D0 := D
  obtain ⟨oc2, od, dV, kV, doc, pm, an, cdv, ct, osl, rfl, lk, hcd, hD, hK⟩ := D.ex
  rcases hD with ⟨_, rfl⟩ | ⟨e, _⟩
  · refine ⟨q.C K, He.ma K (q.C K) "__eq__", _, rfl, gl, oc, fun s us _ hl => ?_, me.at_, me.fn, o1, fun P w base k => lot_eq D0 G.esc G.echk oc na rfl gl n1⟩
    exact .of_eq (by simpa using G.ei kV doc pm an cdv ct us (by simpa using hl))
  · exact absurd rfl e
theorem len_hd {K : PySem.W.Frag} {h : Heap} {mg : Str → Option Value} {q : LotTx} {fd : FuncData} (X : K.In h) (Gl : h.Ns mainGlobals mg) (G : q.Good) (fact : ∀ f ∈ q.fas, f.ok K = true) (hf : q.ok K = true) (D : FunD K q.ln.name q.ln.qual q.ln.params q.ln.body q.ln.scope (q.ln.dvs K) (q.ln.kws K) (He.fAd K q.ln.at_) fd)
    (n1 : mg "len" = none) : LotLN K mg q.g := by
  have cl := He.cls_ok (fact (.cls (Str.ofString q.cn)) (by unfold LotTx.fas; simp))
  have na := He.noat_ok (fact (.noat (Str.ofString q.cn) (Str.ofString q.fl)) (by unfold LotTx.fas; simp))
  have me := He.meth_ok (fact (.meth (Str.ofString q.cn) "__len__") (by unfold LotTx.fas; simp))
  have e0 : q.ln.dvs K = [] := by unfold He.DefD.dvs; rw [G.ldf]; rfl
  have ea : He.fAd K q.ln.at_ = He.ma K (q.C K) "__len__" := by rw [G.lat]; rfl
  rw [ea, e0] at D
  have D0 := D
  obtain ⟨oc2, od, dV, kV, doc, pm, an, cdv, ct, osl, rfl, lk, hcd, hD, hK⟩ := D.ex
  rcases hD with ⟨_, rfl⟩ | ⟨e, _⟩
  · refine ⟨q.C K, He.ma K (q.C K) "__len__", _, rfl, fun s us _ hl => ?_, me.at_, me.fn, fun P w base k => lot_len D0 G.lsc G.lchk cl na rfl n1⟩
    exact .of_eq (by simpa using G.li kV doc pm an cdv ct us (by simpa using hl))
  · exact absurd rfl e
theorem lot_hd {K : PySem.W.Frag} {h : Heap} {mg : Str → Option Value} {q : LotTx} {fd : FuncData} (X : K.In h) (Gl : h.Ns mainGlobals mg) (G : q.Good) (fact : ∀ f ∈ q.fas, f.ok K = true) (hf : q.ok K = true ∧ q.seen K = q.get.val) (D : FunD K q.ini.name q.ini.qual q.ini.params q.ini.body q.ini.scope (q.ini.dvs K) (q.ini.kws K) (He.fAd K q.ini.at_) fd)
    (n1 : mg "tuple" = none) (n2 : mg "sorted" = none) (n3 : mg "set" = none) : LotHd K mg q.g := by
  obtain ⟨gd, D2⟩ := q.fun_ hf.1 hf.2
  have cl := He.cls_ok (fact (.cls (Str.ofString q.cn)) (by unfold LotTx.fas; simp))
  have na := He.noat_ok (fact (.noat (Str.ofString q.cn) (Str.ofString q.fl)) (by unfold LotTx.fas; simp))
  have mk := He.mkr_ok (fact (.mkr (Str.ofString q.cn)) (by unfold LotTx.fas; simp))
  have gl := He.glo_ok X Gl (fact (.glo (Str.ofString q.cn)) (by unfold LotTx.fas; simp))
  have l1 : (q.ini.dvs K).length = 1 := by unfold He.DefD.dvs; rw [List.length_map]; exact G.one
  obtain ⟨ds, v1, b1⟩ := FunD.binds1 (ps := ["self", "gates"]) D 2 1 (fun e => by rw [e] at l1; cases l1) (by rw [l1]; rfl) fun T kV doc pm an cdv ct us its h1 h2 => G.bi T kV doc pm an cdv ct us its h1 (by rw [h2, l1])
  have e1 : (q.ini.dvs K).drop 1 = [] := List.drop_eq_nil_of_le (by rw [l1]; exact Nat.le_refl _)
  rw [e1] at v1
  cases v1
  have b2 : Binds K gd ["self"] [] := FunD.bindsN (ps := ["self"]) D2 fun kV doc pm an cdv ct us h => G.gi kV doc pm an cdv ct us h
  have ea : He.fAd K q.ini.at_ = He.ma K (q.C K) "__init__" := by rw [G.at_]; rfl
  rw [ea] at D
  refine ⟨q.C K, _, q.p K, q.a K, fd, gd, rfl, gl, mk, b1, cl, q.prop hf.1, b2, fun P w base k => ⟨lot_init D G.sc G.chk cl na n1 n2 n3, ?_⟩⟩
  obtain ⟨p1, p2, p3, eb⟩ := G.gb
  obtain ⟨oc, od, dV, kV, doc, pm, an, cdv, ct, osl, rfl, lk, hcd, _, _⟩ := D2.ex
  exact fn_getter lk hcd G.gsc G.gN eb cl na
theorem head_of {defs : List Df} {cs : List (String × Cn)} {lt : List LotTx} {gi : Gi} {K : PySem.W.Frag} {h : Heap} {mg : Str → Option Value} (X : K.In h) (G : h.Ns mainGlobals mg) (c : He.SaysD (faOf defs (cs.map fun p => (Str.ofString p.1, p.2)) lt) (fnOfD defs lt) K) (sy : SysOk K) (ll : ∀ q ∈ lt, q.ok K = true ∧ q.seen K = q.get.val) (hg : ∀ q ∈ lt, q.Good) (hc : gi.consts = cs.map fun p => (p.1, p.2.d)) (hlt : gi.lots = lt.map LotTx.g)
    (hb : ∀ d ∈ defs, BindOk d) (hs : ∀ d ∈ defs, shB d = true) : HeadOk gi defs K mg := by
  have fact : ∀ f ∈ faOf defs (cs.map fun p => (Str.ofString p.1, p.2)) lt, f.ok K = true := fun f hf => by
    obtain ⟨i, hi⟩ := List.mem_iff_getElem?.mp hf
    exact c.fact i hi
  have free : ∀ n ∈ noBs, mg n = none := fun n hn => He.free_ok X G (fact (.free n) (by
    unfold faOf
    simp only [List.mem_append, List.mem_map]
    exact .inl (.inl (.inr ⟨n, hn, rfl⟩))))
  refine ⟨free, fun p hp => ?_, sy, fun z hz => ?_, fun i d hi => ?_⟩
  · rw [hc] at hp
    obtain ⟨q, hq, rfl⟩ := List.mem_map.mp hp
    have hf : (q.2.fa (Str.ofString q.1)).ok K = true := fact _ (by
      unfold faOf
      simp only [List.mem_append, List.mem_map]
      exact .inl (.inr ⟨(Str.ofString q.1, q.2), ⟨q, hq, rfl⟩, rfl⟩))
    obtain ⟨x, n⟩ := q
    cases n with
    | i n =>
      obtain ⟨t, e⟩ := He.int_ok X G hf
      exact ⟨.int n, _, e, ⟨t, rfl⟩, fun F H => .int _⟩
    | s z =>
      obtain ⟨t, e⟩ := He.str_ok X G hf
      exact ⟨.str z, _, e, ⟨t, rfl⟩, fun F H => .str _⟩
  · rw [hlt] at hz
    obtain ⟨q, hq, rfl⟩ := List.mem_map.mp hz
    obtain ⟨j, hj⟩ := List.mem_iff_getElem?.mp (show q.ini ∈ fnOfD defs lt from List.mem_append_right _ (List.mem_append_left _ (List.mem_map.mpr ⟨q, hq, rfl⟩)))
    obtain ⟨fd, D⟩ := c.def_ j hj
    obtain ⟨j2, hj2⟩ := List.mem_iff_getElem?.mp (show q.eq ∈ fnOfD defs lt from List.mem_append_right _ (List.mem_append_right _ (List.mem_append_left _ (List.mem_map.mpr ⟨q, hq, rfl⟩))))
    obtain ⟨fd2, D2⟩ := c.def_ j2 hj2
    obtain ⟨j3, hj3⟩ := List.mem_iff_getElem?.mp (show q.ln ∈ fnOfD defs lt from List.mem_append_right _ (List.mem_append_right _ (List.mem_append_right _ (List.mem_map.mpr ⟨q, hq, rfl⟩))))
    obtain ⟨fd3, D3⟩ := c.def_ j3 hj3
    have fq : ∀ f ∈ q.fas, f.ok K = true := fun f hf => fact f (by
      unfold faOf
      exact List.mem_append_right _ (List.mem_flatMap.mpr ⟨q, hq, hf⟩))
    exact ⟨lot_hd X G (hg q hq) fq (ll q hq) D (free _ (by decide +kernel)) (free _ (by decide +kernel)) (free _ (by decide +kernel)), eq_hd X G (hg q hq) fq (ll q hq).1 D2 (free _ (by decide +kernel)), zero_hd X G (hg q hq) fq (ll q hq).1 D (free _ (by decide +kernel)) (free _ (by decide +kernel)) (free _ (by decide +kernel)), len_hd X G (hg q hq) fq (ll q hq).1 D3 (free _ (by decide +kernel))⟩
  · have hm := List.mem_of_getElem? hi
    obtain ⟨fd, F⟩ := c.def_ i (d := ⟨(d.name, none), d.name, d.name, d.params, d.body, d.scope, d.dfl, d.kwd⟩) (by unfold fnOfD; rw [List.getElem?_append_left (by rw [List.length_map]; exact (List.getElem?_eq_some_iff.mp hi).1), List.getElem?_map, hi]; rfl)
    have F' : d.Fun K (He.fAd K (d.name, none)) fd := F
    refine ⟨_, fd, F', He.glo_ok X G (fact (.glo d.name) ?_), bind_ok F' (hb d hm) (hs d hm), star_bind F' (hb d hm)⟩
    unfold faOf
    simp only [List.mem_append, List.mem_map]
    exact .inl (.inl (.inl ⟨d, hm, rfl⟩))
/-- the law's end over the table: li the law's place -/
theorem end_of {l : PySem.W.OpenLaw} {n k : Nat} {q : Program} {loose : List Str} {XP : (Str → Option Value) → Heap → Prop} {dr : DefRec} {defs : List Df} {cs : List (String × Cn)} {lt : List LotTx} {gi : Gi} {li : Nat} {dl : Df} {x : Str} (fuel m : Nat) (hn : l.most = some n) (hn2 : n ≤ sizeLine) (hdf : dr.params.defaults = []) (hr : Room (k + 2) callerA) (hg : ∀ q ∈ lt, q.Good) (hlt : gi.lots = lt.map LotTx.g)
    (hs : gi.sigs = sigsOf defs) (hc : gi.consts = cs.map fun p => (p.1, p.2.d)) (hb : ∀ d ∈ defs, BindOk d) (hsh : ∀ d ∈ defs, shB d = true) (hok : ∀ d ∈ defs, okDf gi d = true) (hsc : ∀ d ∈ defs, FnScope d.N d.ps d.scope) (hl : defs[li]? = some dl) (hnm : dr.name = dl.name) (hps : dl.ps = [x]) (hld : dl.dfl = [])
    (hbl : ∀ (kV doc pm : Value) (an : Option Addr) (cdv ct : Value) (u : Value), bindArgs (PySem.W.fnOf dl.name dl.name dl.params dl.body dl.scope .none kV doc pm an cdv ct) ⟨[u], []⟩ = pure [(x, u)])
    (hrun : ∀ ns : List Int, ns.length ≤ n → ∃ fin, run (defs.map (·.fd)) fuel k li [.sc ns] = .ret (.sh (.bool true)) fin) :
    PySem.W.WalkO q loose XP (hookX m (faOf defs (cs.map fun p => (Str.ofString p.1, p.2)) lt) (fnOfD defs lt) lt).says l.row.toRowW dr [] (fun f vs => PySem.call f vs) := by
  refine walk_ofG (x := x) (k := k + 2) hn hn2 hdf hr fun w mg fa h Y G hmg => ?_
  obtain ⟨K, KX, c0⟩ := Y
  obtain ⟨c, sy, ll⟩ := c0.both
  obtain ⟨f, fd, F, e, _⟩ := (head_of (gi := gi) KX G c sy ll hg hc hlt hb hsh).fn li dl hl
  rw [hnm, e] at hmg
  cases hmg
  refine ⟨K, fd, SpMi K noX (run (defs.map (·.fd)) fuel k li), KX, fun s u => ?_, fun H a ns hlen hO hS => law_sp hS (hrun ns hlen), fun base hK hns => ?_⟩
  · obtain ⟨oc, od, dV, kV, doc, pm, an, cdv, ct, osl, rfl, lk, hcd, hD, hK⟩ := F.ex
    rcases hD with ⟨_, rfl⟩ | ⟨e, _⟩
    · exact .of_eq (hbl kV doc pm an cdv ct u)
    · exact absurd (by unfold Df.dvs; rw [hld]; rfl) e
  · have T := (table (P := l.prog) (w := w) (base := base) noX fuel hs (head_of (gi := gi) KX G c sy ll hg hc hlt hb hsh) hok hsc k li dl hl _ fd F).1
    rw [hps] at T
    exact T
end MI
namespace MI
open PySem
/-! ### running the small language -/
def Wp {α : Type} (o : Out α) (Q : α → Env → Prop) : Prop := match o with
  | .ok a ρ => Q a ρ
  | _ => False
theorem Wp.mono {α : Type} {o : Out α} {Q Q' : α → Env → Prop} (h : Wp o Q) (i : ∀ a ρ, Q a ρ → Q' a ρ) : Wp o Q' := by
  cases o with
  | ok a ρ => exact i a ρ h
  | ex x ρ => exact h
  | no => exact h
theorem wp_ok {α : Type} (a : α) (ρ : Env) (Q : α → Env → Prop) : Wp (.ok a ρ) Q = Q a ρ := rfl
theorem wp_no {α : Type} (Q : α → Env → Prop) : Wp (.no : Out α) Q = False := rfl
theorem wp_bind {α β : Type} (o : Out α) (f : α → Env → Out β) (Q : β → Env → Prop) : Wp (o.bind f) Q = Wp o fun a ρ => Wp (f a ρ) Q := by cases o <;> rfl
theorem wp_lift {α : Type} (o : Option α) (ρ : Env) (Q : α → Env → Prop) : Wp (Out.lift o ρ) Q = ∃ a, o = some a ∧ Q a ρ := by
  cases o with
  | none => simp [Wp, Out.lift]
  | some a => simp [Wp, Out.lift]
theorem wp_some {α : Type} (a : α) (ρ : Env) (Q : α → Env → Prop) : Wp (Out.lift (some a) ρ) Q = Q a ρ := rfl
theorem wp_ite {α : Type} {c : Prop} [Decidable c] (a b : Out α) (Q : α → Env → Prop) : Wp (if c then a else b) Q = if c then Wp a Q else Wp b Q := by split <;> rfl
/-- a def comes back -/
def Ret (o : FOut) (P : M → List M → Prop) : Prop := ∃ m fin, o = .ret m fin ∧ P m fin
theorem Ret.mono {o : FOut} {P P' : M → List M → Prop} (h : Ret o P) (i : ∀ m fin, P m fin → P' m fin) : Ret o P' := by
  obtain ⟨m, fin, e, p⟩ := h
  exact ⟨m, fin, e, i m fin p⟩
def endOf (P : M → List M → Prop) (ms : List M) (f : Fl) (ρ : Env) : Prop := match f with
  | .ret m => ∃ fin, finOf ρ ms 0 = some fin ∧ P m fin
  | .next => ∃ fin, finOf ρ ms 0 = some fin ∧ P (.sh .none) fin
  | _ => False
theorem ret_run {prog : List Fd} {fuel k f : Nat} {fd : Fd} {ms : List M} {P : M → List M → Prop} (hf : prog[f]? = some fd) (h1 : ms.length = fd.nP) (h2 : fd.nP ≤ fd.nS) (h3 : (ms.all fun m => !m.isOwn || m.pinned) = true)
    (h : Wp (evSs ⟨run prog fuel k, fuel⟩ fd.body (ms.map some ++ List.replicate (fd.nS - fd.nP) none)) (endOf P ms)) : Ret (run prog fuel (k + 1) f ms) P := by
  unfold run
  rw [hf]
  show Ret (runB _ fd ms) P
  unfold runB
  rw [if_pos ⟨h1, h2, h3⟩]
  cases e : evSs ⟨run prog fuel k, fuel⟩ fd.body (ms.map some ++ List.replicate (fd.nS - fd.nP) none) with
  | no => rw [e] at h; exact h.elim
  | ex x ρ => rw [e] at h; exact h.elim
  | ok fl ρ =>
    rw [e] at h
    cases fl with
    | ret m => obtain ⟨fin, e1, p⟩ := h; dsimp only; rw [e1]; exact ⟨m, fin, rfl, p⟩
    | next => obtain ⟨fin, e1, p⟩ := h; dsimp only; rw [e1]; exact ⟨_, fin, rfl, p⟩
    | brk => exact h.elim
    | cont => exact h.elim
/-- what a call leaves behind -/
theorem wp_call {cx : Cxt} {f : Nat} {rs : List R} {src : List Arg} {ρ : Env} {ms : List M} {P : M → List M → Prop} {Q : R → Env → Prop} (ha : argsOf ρ rs src = some ms) (hn : ((ownsOf ρ rs src).filterMap id).Nodup) (hs : srcOk rs.length src = true) (hr : Ret (cx.φ f ms) P)
    (h : ∀ m fin, P m fin → kinds ms fin = true ∧ Q m.res (backOf ρ (ownsOf ρ rs src) fin)) : Wp (callR cx f rs src ρ) Q := by
  obtain ⟨m, fin, e, p⟩ := hr
  obtain ⟨k, q⟩ := h m fin p
  unfold callR
  rw [ha]
  dsimp only
  rw [if_pos ⟨hn, hs⟩, e]
  dsimp only
  rw [if_pos k]
  exact q
end MI
namespace MI
open PySem
/-! ### stepping -/
def wpV (o : Option M) (i : Nat) (ρ : Env) (Q : R → Env → Prop) : Prop := match o with
  | some (.sh d) => Q (.val d) ρ
  | some (.ol _ _) => Q (.own i) ρ
  | some (.od _ _) => Q (.own i) ρ
  | some (.ob C fs) => Q (.ob C fs) ρ
  | some (.sc ns) => Q (.sc ns) ρ
  | none => False
/-- a value of an option, then Q -/
def wpO {α : Type} (o : Option α) (Q : α → Prop) : Prop := match o with
  | some a => Q a
  | none => False
/-- a truth, then Q -/
def wpI (b : Bool) (P Q : Prop) : Prop := if b = true then P else Q
@[simp] theorem wpV_sh (d : D) (i : Nat) (ρ : Env) (Q : R → Env → Prop) : wpV (some (.sh d)) i ρ Q = Q (.val d) ρ := rfl
@[simp] theorem wpV_ol (p : Bool) (xs : List D) (i : Nat) (ρ : Env) (Q : R → Env → Prop) : wpV (some (.ol p xs)) i ρ Q = Q (.own i) ρ := rfl
@[simp] theorem wpV_od (p : Bool) (xs : List (D × D)) (i : Nat) (ρ : Env) (Q : R → Env → Prop) : wpV (some (.od p xs)) i ρ Q = Q (.own i) ρ := rfl
@[simp] theorem wpV_sc (ns : List Int) (i : Nat) (ρ : Env) (Q : R → Env → Prop) : wpV (some (.sc ns)) i ρ Q = Q (.sc ns) ρ := rfl
@[simp] theorem wpO_some {α : Type} (a : α) (Q : α → Prop) : wpO (some a) Q = Q a := rfl
@[simp] theorem wpO_none {α : Type} (Q : α → Prop) : wpO none Q = False := rfl
theorem wpO_of {α : Type} {o : Option α} {a : α} {Q : α → Prop} (e : o = some a) (h : Q a) : wpO o Q := by rw [e]; exact h
@[simp] theorem wpI_true (P Q : Prop) : wpI true P Q = P := rfl
@[simp] theorem wpI_false (P Q : Prop) : wpI false P Q = Q := by simp [wpI]
theorem wp_liftO {α : Type} (o : Option α) (ρ : Env) (Q : α → Env → Prop) : Wp (Out.lift o ρ) Q = wpO o fun a => Q a ρ := by cases o <;> rfl
section
variable (cx : Cxt) (ρ : Env)
@[simp ↓] theorem s_ok {α : Type} (a : α) (Q : α → Env → Prop) : Wp (.ok a ρ) Q = Q a ρ := rfl
@[simp ↓] theorem s_bind {α β : Type} (o : Out α) (f : α → Env → Out β) (Q : β → Env → Prop) : Wp (o.bind f) Q = Wp o fun a ρ => Wp (f a ρ) Q := wp_bind o f Q
@[simp ↓] theorem s_lift {α : Type} (o : Option α) (Q : α → Env → Prop) : Wp (Out.lift o ρ) Q = wpO o fun a => Q a ρ := wp_liftO o ρ Q
variable (Q : R → Env → Prop)
@[simp ↓] theorem s_var (i : Nat) : Wp (evE cx (.var i) ρ) Q = wpV (ρ.get i) i ρ Q := by
  simp only [evE]
  cases e : ρ.get i with
  | none => rfl
  | some m => cases m <;> rfl
@[simp ↓] theorem s_int (i : Int) : Wp (evE cx (.int i) ρ) Q = Q (.val (.int i)) ρ := by simp only [evE]; rfl
@[simp ↓] theorem s_str (i : String) : Wp (evE cx (.str i) ρ) Q = Q (.val (.str (Str.ofString i))) ρ := by simp only [evE]; rfl
@[simp ↓] theorem s_bl (i : Bool) : Wp (evE cx (.bl i) ρ) Q = Q (.val (.bool i)) ρ := by simp only [evE]; rfl
@[simp ↓] theorem s_non : Wp (evE cx .non ρ) Q = Q (.val .none) ρ := by simp only [evE]; rfl
@[simp ↓] theorem s_glo (n : String) (d : D) : Wp (evE cx (.glo n d) ρ) Q = Q (.val d) ρ := by simp only [evE]; rfl
@[simp ↓] theorem s_tup (es : List Ex) : Wp (evE cx (.tup es) ρ) Q = Wp (evDs cx es ρ) fun ds ρ => ds.length ≤ Lim ∧ Q (.val (.tuple ds)) ρ := by
  simp only [evE, s_bind]
  congr 1
  funext ds ρ
  rw [wp_ite]
  by_cases h : ds.length ≤ Lim <;> simp [h, Wp]
@[simp ↓] theorem s_lst (es : List Ex) : Wp (evE cx (.lst es) ρ) Q = Wp (evDs cx es ρ) fun ds ρ => ds.length ≤ Lim ∧ Q (.new ds) ρ := by
  simp only [evE, s_bind]
  congr 1
  funext ds ρ
  rw [wp_ite]
  by_cases h : ds.length ≤ Lim <;> simp [h, Wp]
@[simp ↓] theorem s_dct : Wp (evE cx (.dct []) ρ) Q = Q (.newd []) ρ := by simp only [evE]; rfl
@[simp ↓] theorem s_dctN (x : Ex × Ex) (xs : List (Ex × Ex)) : Wp (evE cx (.dct (x :: xs)) ρ) Q = Wp (evKs cx (x :: xs) ρ) fun ds ρ => (ds.all fun p => isKey p.1) = true ∧ ds.length ≤ 15 ∧ Q (.newd (dputs [] ds)) ρ := by
  simp only [evE, s_bind]
  congr 1
  funext ds ρ
  by_cases h : (ds.all fun p => isKey p.1) = true
  · by_cases h2 : ds.length ≤ 15
    · rw [if_pos (by rw [h, decide_eq_true h2]; rfl), eq_true h, eq_true h2, true_and, true_and]
      rfl
    · rw [if_neg (by rw [decide_eq_false h2, Bool.and_false]; exact Bool.false_ne_true), eq_false h2, false_and, and_false]
      rfl
  · rw [if_neg (by rw [Bool.not_eq_true] at h; rw [h, Bool.false_and]; exact Bool.false_ne_true), eq_false h, false_and]
    rfl
@[simp ↓] theorem s_ksnil (Qk : List (D × D) → Env → Prop) : Wp (evKs cx [] ρ) Qk = Qk [] ρ := by simp only [evKs]; rfl
@[simp ↓] theorem s_kscons (a b : Ex) (es : List (Ex × Ex)) (Qk : List (D × D) → Env → Prop) : Wp (evKs cx ((a, b) :: es) ρ) Qk = Wp (evE cx a ρ) fun r ρ => Wp (MI.frz r ρ) fun k ρ => Wp (evE cx b ρ) fun r ρ => Wp (MI.frz r ρ) fun d ρ => Wp (evKs cx es ρ) fun ds ρ => Qk ((k, d) :: ds) ρ := by
  simp only [evKs, s_bind, s_ok]
def negD : Option D → Option R
  | some (.int i) => some (.val (.int (-i)))
  | _ => none
@[simp] theorem negD_int (i : Int) : negD (some (.int i)) = some (.val (.int (-i))) := rfl
@[simp ↓] theorem s_neg (a : Ex) : Wp (evE cx (.neg a) ρ) Q = Wp (evE cx a ρ) fun r ρ => wpO (negD (r.cont ρ)) fun r => Q r ρ := by
  simp only [evE, s_bind]
  congr 1
  funext r ρ
  unfold negD
  cases r.cont ρ with
  | none => rfl
  | some d => cases d <;> rfl
@[simp ↓] theorem s_truthR (r : R) (Q : Bool → Env → Prop) : Wp (truthR r ρ) Q = wpO ((r.cont ρ).bind truth) fun b => Q b ρ := by unfold truthR; exact wp_liftO _ _ _
@[simp ↓] theorem s_not (a : Ex) : Wp (evE cx (.not a) ρ) Q = Wp (evE cx a ρ) fun r ρ => wpO ((r.cont ρ).bind truth) fun b => Q (.val (.bool (!b))) ρ := by
  simp only [evE, s_bind, s_truthR, s_ok]
@[simp ↓] theorem s_bin (o : Op) (a b : Ex) : Wp (evE cx (.bin o a b) ρ) Q = Wp (evE cx a ρ) fun ra ρ => Wp (evE cx b ρ) fun rb ρ => wpO ((ra.cont ρ).bind fun x => (rb.cont ρ).bind fun y => opBin o x y) fun r => Q r ρ := by
  simp only [evE, s_bind, s_lift]
@[simp ↓] theorem s_cmp (o : Cp) (a b : Ex) : Wp (evE cx (.cmp o a b) ρ) Q = Wp (evE cx a ρ) fun ra ρ => Wp (evE cx b ρ) fun rb ρ => wpO ((ra.cont ρ).bind fun x => (rb.cont ρ).bind fun y => opCmp o x y) fun c => Q (.val (.bool c)) ρ := by
  simp only [evE, s_bind, s_lift]
  congr 1
  funext ra ρ
  congr 1
  funext rb ρ
  cases ra.cont ρ with
  | none => rfl
  | some x =>
    cases rb.cont ρ with
    | none => rfl
    | some y =>
      show wpO ((opCmp o x y).map _) _ = wpO (opCmp o x y) _
      cases opCmp o x y <;> rfl
@[simp ↓] theorem s_chain (o p : Cp) (a b c : Ex) : Wp (evE cx (.chain o p a b c) ρ) Q = Wp (evE cx a ρ) fun ra ρ => Wp (evE cx b ρ) fun rb ρ => wpO ((ra.cont ρ).bind fun x => (rb.cont ρ).bind fun y => opCmp o x y) fun k =>
    wpI k (Wp (evE cx c ρ) fun rc ρ => wpO ((rb.cont ρ).bind fun y => (rc.cont ρ).bind fun z => opCmp p y z) fun c => Q (.val (.bool c)) ρ) (Q (.val (.bool false)) ρ) := by
  simp only [evE, s_bind, s_lift]
  congr 1
  funext ra ρ
  congr 1
  funext rb ρ
  congr 1
  funext k
  rw [wp_ite]
  unfold wpI
  congr 1
  simp only [s_bind, s_lift]
  congr 1
  funext rc ρ
  cases rb.cont ρ with
  | none => rfl
  | some x =>
    cases rc.cont ρ with
    | none => rfl
    | some y =>
      show wpO ((opCmp p x y).map _) _ = wpO (opCmp p x y) _
      cases opCmp p x y <;> rfl
def andD : R → Option Bool
  | .val (.bool b) => some b
  | _ => none
@[simp] theorem andD_b (b : Bool) : andD (.val (.bool b)) = some b := rfl
@[simp ↓] theorem s_and (a b : Ex) : Wp (evE cx (.and a b) ρ) Q = Wp (evE cx a ρ) fun r ρ => wpO (andD r) fun k => wpI k (Wp (evE cx b ρ) Q) (Q (.val (.bool false)) ρ) := by
  simp only [evE, s_bind]
  congr 1
  funext r ρ
  cases r with
  | val d =>
    cases d with
    | bool b => cases b <;> simp [andD, wpI, wpO, Wp]
    | _ => rfl
  | _ => rfl
@[simp ↓] theorem s_or (a b : Ex) : Wp (evE cx (.or a b) ρ) Q = Wp (evE cx a ρ) fun r ρ => wpO (andD r) fun k => wpI k (Q (.val (.bool true)) ρ) (Wp (evE cx b ρ) Q) := by
  simp only [evE, s_bind]
  congr 1
  funext r ρ
  cases r with
  | val d =>
    cases d with
    | bool b => cases b <;> simp [andD, wpI, wpO, Wp]
    | _ => rfl
  | _ => rfl
@[simp ↓] theorem s_ite (c a b : Ex) : Wp (evE cx (.ite c a b) ρ) Q = Wp (evT cx c ρ) fun k ρ => wpI k (Wp (evE cx a ρ) Q) (Wp (evE cx b ρ) Q) := by
  simp only [evE, s_bind, wp_ite, wpI]
@[simp ↓] theorem s_idx (a i : Ex) : Wp (evE cx (.idx a i) ρ) Q = Wp (evE cx a ρ) fun ra ρ => Wp (evE cx i ρ) fun ri ρ => wpO ((ra.cont ρ).bind fun x => (ri.cont ρ).bind fun y => opIdx x y) fun r => Q r ρ := by
  simp only [evE, s_bind, s_lift]
@[simp ↓] theorem s_sl (a : Ex) (lo hi : Option Ex) : Wp (evE cx (.sl a lo hi) ρ) Q = Wp (evE cx a ρ) fun ra ρ => Wp (evO cx lo ρ) fun l ρ => Wp (evO cx hi ρ) fun h ρ => wpO ((ra.contS ρ).bind fun x => opSl x l h) fun r => Q r ρ := by
  rw [evE_sl]
  simp only [s_bind, s_lift]
def intD' : D → Option (Option Int)
  | .int i => some (some i)
  | _ => none
@[simp] theorem intD'_i (i : Int) : intD' (.int i) = some (some i) := rfl
@[simp ↓] theorem s_O0 (Q : Option Int → Env → Prop) : Wp (evO cx none ρ) Q = Q none ρ := rfl
@[simp ↓] theorem s_O1 (e : Ex) (Q : Option Int → Env → Prop) : Wp (evO cx (some e) ρ) Q = Wp (evE cx e ρ) fun r ρ => Wp (MI.frz r ρ) fun d ρ => wpO (intD' d) fun i => Q i ρ := by
  unfold evO
  simp only [s_bind]
  congr 1
  funext r ρ
  congr 1
  funext d ρ
  cases d <;> rfl
@[simp ↓] theorem s_rev (a : Ex) : Wp (evE cx (.rev a) ρ) Q = Wp (evE cx a ρ) fun ra ρ => wpO ((ra.cont ρ).bind opRev) fun r => Q r ρ := by
  simp only [evE, s_bind, s_lift]
@[simp ↓] theorem s_isa (a : Ex) (ts : List Ty) (m : Bool) : Wp (evE cx (.isa a ts m) ρ) Q = Wp (evE cx a ρ) fun ra ρ => wpO (ra.cont ρ) fun d => Q (.val (.bool (ts.any fun t => isTy t d))) ρ := by
  simp only [evE, s_bind, s_lift]
  congr 1
  funext r ρ
  cases r.cont ρ <;> rfl
@[simp ↓] theorem s_bi1 (f : Bi) (a : Ex) : Wp (evE cx (.bi1 f a) ρ) Q = Wp (evE cx a ρ) fun ra ρ => wpO ((ra.cont ρ).bind (opB1 f)) fun r => Q r ρ := by
  simp only [evE, s_bind, s_lift]
@[simp ↓] theorem s_bi2 (f : Bi) (a b : Ex) : Wp (evE cx (.bi2 f a b) ρ) Q = Wp (evE cx a ρ) fun ra ρ => Wp (evE cx b ρ) fun rb ρ => wpO ((ra.cont ρ).bind fun x => (rb.cont ρ).bind fun y => opB2 f x y) fun r => Q r ρ := by
  simp only [evE, s_bind, s_lift]
def wpM (o : Option M) (Q : Bool → List D → Prop) : Prop := match o with
  | some (.ol p xs) => Q p xs
  | _ => False
@[simp] theorem wpM_ol (p : Bool) (xs : List D) (Q : Bool → List D → Prop) : wpM (some (.ol p xs)) Q = Q p xs := rfl
@[simp ↓] theorem s_mu (m : Mu) (i : Nat) (es : List Ex) : Wp (evE cx (.mu m i es) ρ) Q = wpM (ρ.get i) fun _ _ => Wp (evDs cx es ρ) fun ds ρ => wpM (ρ.get i) fun p xs => wpO (opMu m xs ds) fun r => Q (.val r.1) (ρ.set i (some (.ol p r.2))) := by
  simp only [evE]
  unfold wpM
  cases ρ.get i with
  | none => rfl
  | some m0 =>
    cases m0 with
    | ol p xs =>
      dsimp only
      rw [s_bind]
      congr 1
      funext ds ρ
      cases ρ.get i with
      | none => rfl
      | some m' =>
        cases m' with
        | ol p xs =>
          dsimp only
          cases opMu m xs ds with
          | none => rfl
          | some r => rfl
        | _ => rfl
    | _ => rfl
@[simp ↓] theorem s_call (f : Nat) (es : List Ex) (refs : List Bool) (src : List Arg) : Wp (evE cx (.call f es refs src) ρ) Q = Wp (evRs cx es refs ρ) fun rs ρ => Wp (callR cx f rs src ρ) Q := by
  simp only [evE, s_bind]
@[simp ↓] theorem s_frz_val (d : D) (Q : D → Env → Prop) : Wp (MI.frz (.val d) ρ) Q = Q d ρ := rfl
@[simp ↓] theorem s_frz_new (d : List D) (Q : D → Env → Prop) : Wp (MI.frz (.new d) ρ) Q = Q (.list d) ρ := rfl
@[simp ↓] theorem s_frz_newd (d : List (D × D)) (Q : D → Env → Prop) : Wp (MI.frz (.newd d) ρ) Q = Q (.dict d) ρ := rfl
def wpF (o : Option M) (i : Nat) (ρ : Env) (Q : D → Env → Prop) : Prop := match o with
  | some (.sh d) => Q d ρ
  | some (.ol false xs) => Q (.list xs) (ρ.set i (some (.sh (.list xs))))
  | some (.od false kvs) => Q (.dict kvs) (ρ.set i (some (.sh (.dict kvs))))
  | _ => False
@[simp] theorem wpF_sh (d : D) (i : Nat) (Q : D → Env → Prop) : wpF (some (.sh d)) i ρ Q = Q d ρ := rfl
@[simp] theorem wpF_ol (d : List D) (i : Nat) (Q : D → Env → Prop) : wpF (some (.ol false d)) i ρ Q = Q (.list d) (ρ.set i (some (.sh (.list d)))) := rfl
@[simp] theorem wpF_od (d : List (D × D)) (i : Nat) (Q : D → Env → Prop) : wpF (some (.od false d)) i ρ Q = Q (.dict d) (ρ.set i (some (.sh (.dict d)))) := rfl
@[simp ↓] theorem s_frz_own (i : Nat) (Q : D → Env → Prop) : Wp (MI.frz (.own i) ρ) Q = wpF (ρ.get i) i ρ Q := by
  unfold MI.frz wpF
  dsimp only
  cases ρ.get i with
  | none => rfl
  | some m =>
    cases m with
    | ol p xs => cases p <;> rfl
    | od p xs => cases p <;> rfl
    | _ => rfl
@[simp ↓] theorem s_nil (Q : List D → Env → Prop) : Wp (evDs cx [] ρ) Q = Q [] ρ := by simp only [evDs]; rfl
@[simp ↓] theorem s_cons (e : Ex) (es : List Ex) (Q : List D → Env → Prop) : Wp (evDs cx (e :: es) ρ) Q = Wp (evE cx e ρ) fun r ρ => Wp (MI.frz r ρ) fun d ρ => Wp (evDs cx es ρ) fun ds ρ => Q (d :: ds) ρ := by
  simp only [evDs, s_bind, s_ok]
@[simp ↓] theorem s_rnil (refs : List Bool) (Q : List R → Env → Prop) : Wp (evRs cx [] refs ρ) Q = Q [] ρ := by simp only [evRs]; rfl
@[simp ↓] theorem s_rcons (e : Ex) (es : List Ex) (b : Bool) (refs : List Bool) (Q : List R → Env → Prop) : Wp (evRs cx (e :: es) (b :: refs) ρ) Q = Wp (evE cx e ρ) fun r ρ => Wp (R.pass b r ρ) fun r ρ => Wp (evRs cx es refs ρ) fun rs ρ => Q (r :: rs) ρ := by
  simp only [evRs, s_bind, s_ok, List.headD_cons, List.tail_cons]
@[simp ↓] theorem s_pass_val (b : Bool) (d : D) : Wp (R.pass b (.val d) ρ) Q = Q (.val d) ρ := by cases b <;> rfl
@[simp ↓] theorem s_pass_new (b : Bool) (d : List D) : Wp (R.pass b (.new d) ρ) Q = Q (.val (.list d)) ρ := by cases b <;> rfl
@[simp ↓] theorem s_pass_sc (b : Bool) (d : List Int) : Wp (R.pass b (.sc d) ρ) Q = Q (.sc d) ρ := by cases b <;> rfl
@[simp ↓] theorem s_pass_own (i : Nat) : Wp (R.pass true (.own i) ρ) Q = Q (.own i) ρ := rfl
@[simp ↓] theorem s_pass_frz (i : Nat) : Wp (R.pass false (.own i) ρ) Q = Wp (MI.frz (.own i) ρ) fun d ρ => Q (.val d) ρ := by
  show Wp ((MI.frz (.own i) ρ).bind _) Q = _
  rw [s_bind]
  rfl
end
/-! tests -/
section
variable (cx : Cxt) (ρ : Env) (Q : Bool → Env → Prop)
@[simp ↓] theorem t_and (a b : Ex) : Wp (evT cx (.and a b) ρ) Q = Wp (evT cx a ρ) fun k ρ => wpI k (Wp (evT cx b ρ) Q) (Q false ρ) := by
  simp only [evT, s_bind, wp_ite, wpI, s_ok]
@[simp ↓] theorem t_or (a b : Ex) : Wp (evT cx (.or a b) ρ) Q = Wp (evT cx a ρ) fun k ρ => wpI k (Q true ρ) (Wp (evT cx b ρ) Q) := by
  simp only [evT, s_bind, wp_ite, wpI, s_ok]
@[simp ↓] theorem t_not (a : Ex) : Wp (evT cx (.not a) ρ) Q = Wp (evT cx a ρ) fun k ρ => Q (!k) ρ := by
  simp only [evT, s_bind, s_ok]
theorem t_val {e : Ex} (h : evT cx e ρ = (evE cx e ρ).bind truthR) : Wp (evT cx e ρ) Q = Wp (evE cx e ρ) fun r ρ => wpO ((r.cont ρ).bind truth) fun b => Q b ρ := by
  rw [h]
  simp only [s_bind, s_truthR]
@[simp ↓] theorem t_var (i : Nat) : Wp (evT cx (.var i) ρ) Q = Wp (evE cx (.var i) ρ) fun r ρ => wpO ((r.cont ρ).bind truth) fun b => Q b ρ := t_val cx ρ Q (by simp only [evT])
@[simp ↓] theorem t_bl (i : Bool) : Wp (evT cx (.bl i) ρ) Q = Wp (evE cx (.bl i) ρ) fun r ρ => wpO ((r.cont ρ).bind truth) fun b => Q b ρ := t_val cx ρ Q (by simp only [evT])
@[simp ↓] theorem t_cmp (o : Cp) (a b : Ex) : Wp (evT cx (.cmp o a b) ρ) Q = Wp (evE cx (.cmp o a b) ρ) fun r ρ => wpO ((r.cont ρ).bind truth) fun b => Q b ρ := t_val cx ρ Q (by simp only [evT])
@[simp ↓] theorem t_chain (o p : Cp) (a b c : Ex) : Wp (evT cx (.chain o p a b c) ρ) Q = Wp (evE cx (.chain o p a b c) ρ) fun r ρ => wpO ((r.cont ρ).bind truth) fun b => Q b ρ := t_val cx ρ Q (by simp only [evT])
@[simp ↓] theorem t_isa (a : Ex) (ts : List Ty) (m : Bool) : Wp (evT cx (.isa a ts m) ρ) Q = Wp (evE cx (.isa a ts m) ρ) fun r ρ => wpO ((r.cont ρ).bind truth) fun b => Q b ρ := t_val cx ρ Q (by simp only [evT])
@[simp ↓] theorem t_call (f : Nat) (es : List Ex) (refs : List Bool) (src : List Arg) : Wp (evT cx (.call f es refs src) ρ) Q = Wp (evE cx (.call f es refs src) ρ) fun r ρ => wpO ((r.cont ρ).bind truth) fun b => Q b ρ := t_val cx ρ Q (by simp only [evT])
@[simp ↓] theorem t_bi1 (f : Bi) (a : Ex) : Wp (evT cx (.bi1 f a) ρ) Q = Wp (evE cx (.bi1 f a) ρ) fun r ρ => wpO ((r.cont ρ).bind truth) fun b => Q b ρ := t_val cx ρ Q (by simp only [evT])
@[simp ↓] theorem t_idx (a b : Ex) : Wp (evT cx (.idx a b) ρ) Q = Wp (evE cx (.idx a b) ρ) fun r ρ => wpO ((r.cont ρ).bind truth) fun b => Q b ρ := t_val cx ρ Q (by simp only [evT])
end
@[simp] theorem truth_b (b : Bool) : truth (.bool b) = some b := rfl
@[simp] theorem truth_i (b : Int) : truth (.int b) = some (b != 0) := rfl
@[simp] theorem truth_l (b : List D) : truth (.list b) = some (!b.isEmpty) := rfl
@[simp] theorem truth_t (b : List D) : truth (.tuple b) = some (!b.isEmpty) := rfl
@[simp] theorem cont_val (d : D) (ρ : Env) : R.cont ρ (.val d) = some d := rfl
@[simp] theorem cont_new (d : List D) (ρ : Env) : R.cont ρ (.new d) = some (.list d) := rfl
@[simp] theorem cont_newd (d : List (D × D)) (ρ : Env) : R.cont ρ (.newd d) = some (.dict d) := rfl
@[simp] theorem cont_own (i : Nat) (ρ : Env) : R.cont ρ (.own i) = (ρ.get i).bind M.cont := rfl
@[simp] theorem contS_sc (ns : List Int) (ρ : Env) : R.contS ρ (.sc ns) = some (.list (ns.map .int)) := rfl
@[simp] theorem contS_val (d : D) (ρ : Env) : R.contS ρ (.val d) = some d := rfl
@[simp] theorem contS_new (d : List D) (ρ : Env) : R.contS ρ (.new d) = some (.list d) := rfl
@[simp] theorem contS_own (i : Nat) (ρ : Env) : R.contS ρ (.own i) = (ρ.get i).bind M.cont := rfl
@[simp] theorem mcont_sh (d : D) : M.cont (.sh d) = some d := rfl
@[simp] theorem mcont_ol (p : Bool) (d : List D) : M.cont (.ol p d) = some (.list d) := rfl
@[simp] theorem mcont_od (p : Bool) (d : List (D × D)) : M.cont (.od p d) = some (.dict d) := rfl
@[simp] theorem get_zero (x : Option M) (ρ : Env) : Env.get (x :: ρ) 0 = x := by unfold Env.get; cases x <;> rfl
@[simp] theorem get_succ (x : Option M) (ρ : Env) (n : Nat) : Env.get (x :: ρ) (n + 1) = Env.get ρ n := rfl
end MI
namespace MI
open PySem
/-- goes on, or ends -/
def wpN (f : Fl) (ρ : Env) (K : Env → Prop) (Q : Fl → Env → Prop) : Prop := match f with
  | .next => K ρ
  | f => Q f ρ
@[simp] theorem wpN_next (ρ : Env) (K : Env → Prop) (Q : Fl → Env → Prop) : wpN .next ρ K Q = K ρ := rfl
@[simp] theorem wpN_ret (m : M) (ρ : Env) (K : Env → Prop) (Q : Fl → Env → Prop) : wpN (.ret m) ρ K Q = Q (.ret m) ρ := rfl
@[simp] theorem wpN_brk (ρ : Env) (K : Env → Prop) (Q : Fl → Env → Prop) : wpN .brk ρ K Q = Q .brk ρ := rfl
@[simp] theorem wpN_cont (ρ : Env) (K : Env → Prop) (Q : Fl → Env → Prop) : wpN .cont ρ K Q = Q .cont ρ := rfl
@[simp] theorem free_none (ρ : Env) : free (none :: ρ) 0 = true := by simp [free, Env.get]
@[simp] theorem free_some (m : M) (ρ : Env) : free (some m :: ρ) 0 = !m.pinned := by simp [free]
@[simp] theorem free_succ (x : Option M) (ρ : Env) (n : Nat) : free (x :: ρ) (n + 1) = free ρ n := by simp [free]
@[simp] theorem pin_sh (d : D) : M.pinned (.sh d) = false := rfl
@[simp] theorem pin_ol (p : Bool) (d : List D) : M.pinned (.ol p d) = p := rfl
@[simp] theorem pin_od (p : Bool) (d : List (D × D)) : M.pinned (.od p d) = p := rfl
@[simp] theorem pin_sc (d : List Int) : M.pinned (.sc d) = false := rfl
section
variable (cx : Cxt) (ρ : Env)
@[simp ↓] theorem p_val (i : Nat) (d : D) (Q : Unit → Env → Prop) : Wp (putR i (.val d) ρ) Q = wpI (free ρ i) (Q () (ρ.set i (some (.sh d)))) False := by
  show Wp (if free ρ i then Out.ok () (ρ.set i (some (.sh d))) else .no) Q = _
  rw [wp_ite]
  rfl
@[simp ↓] theorem p_new (i : Nat) (d : List D) (Q : Unit → Env → Prop) : Wp (putR i (.new d) ρ) Q = wpI (free ρ i) (Q () (ρ.set i (some (.ol false d)))) False := by
  show Wp (if free ρ i then Out.ok () (ρ.set i (some (.ol false d))) else .no) Q = _
  rw [wp_ite]
  rfl
@[simp ↓] theorem p_newd (i : Nat) (d : List (D × D)) (Q : Unit → Env → Prop) : Wp (putR i (.newd d) ρ) Q = wpI (free ρ i) (Q () (ρ.set i (some (.od false d)))) False := by
  show Wp (if free ρ i then Out.ok () (ρ.set i (some (.od false d))) else .no) Q = _
  rw [wp_ite]
  rfl
@[simp ↓] theorem p_own (i j : Nat) (Q : Unit → Env → Prop) : Wp (putR i (.own j) ρ) Q = Wp (MI.frz (.own j) ρ) fun d ρ => wpI (free ρ i) (Q () (ρ.set i (some (.sh d)))) False := by
  show Wp ((MI.frz (.own j) ρ).bind fun d ρ => if free ρ i then Out.ok () (ρ.set i (some (.sh d))) else .no) Q = _
  rw [s_bind]
  congr 1
  funext d ρ
  rw [wp_ite]
  rfl
@[simp] theorem r_val (d : D) : retM (.val d) ρ = some (.sh d) := rfl
@[simp] theorem r_new (d : List D) : retM (.new d) ρ = some (.ol false d) := rfl
@[simp] theorem r_newd (d : List (D × D)) : retM (.newd d) ρ = some (.od false d) := rfl
def retO : Option M → Option M
  | some (.ol false xs) => some (.ol false xs)
  | some (.od false kvs) => some (.od false kvs)
  | some (.sh d) => some (.sh d)
  | _ => none
@[simp] theorem retO_ol (xs : List D) : retO (some (.ol false xs)) = some (.ol false xs) := rfl
@[simp] theorem retO_od (xs : List (D × D)) : retO (some (.od false xs)) = some (.od false xs) := rfl
@[simp] theorem retO_sh (d : D) : retO (some (.sh d)) = some (.sh d) := rfl
@[simp] theorem r_own (i : Nat) : retM (.own i) ρ = retO (ρ.get i) := rfl
variable (Q : Fl → Env → Prop)
@[simp ↓] theorem q_nil : Wp (evSs cx [] ρ) Q = Q .next ρ := by simp only [evSs]; rfl
@[simp ↓] theorem q_cons (st : Sx) (sts : List Sx) : Wp (evSs cx (st :: sts) ρ) Q = Wp (evS cx st ρ) fun f ρ => wpN f ρ (fun ρ => Wp (evSs cx sts ρ) Q) Q := by
  simp only [evSs, s_bind]
  congr 1
  funext f ρ
  cases f <;> rfl
@[simp ↓] theorem q_asg (i : Nat) (e : Ex) : Wp (evS cx (.asg i e) ρ) Q = Wp (evE cx e ρ) fun r ρ => Wp (putR i r ρ) fun _ ρ => Q .next ρ := by
  simp only [evS, s_bind, s_ok]
@[simp ↓] theorem q_unp (is : List Nat) (e : Ex) : Wp (evS cx (.unp is e) ρ) Q = Wp (evE cx e ρ) fun r ρ => Wp (MI.frz r ρ) fun d ρ => wpO (Tg.put (.tup (is.map .name)) d ρ) fun ρ => Q .next ρ := by
  simp only [evS, s_bind, s_ok, s_lift]
@[simp] theorem intAt_i (k : Int) : intAt (some (.int k)) = some k := rfl
/-- a list or a dict of one's own -/
def wpLD (o : Option M) (A : Bool → List D → Prop) (B : Bool → List (D × D) → Prop) : Prop := match o with
  | some (.ol p xs) => A p xs
  | some (.od p kvs) => B p kvs
  | _ => False
@[simp] theorem wpLD_ol (p : Bool) (xs : List D) (A : Bool → List D → Prop) (B : Bool → List (D × D) → Prop) : wpLD (some (.ol p xs)) A B = A p xs := rfl
@[simp] theorem wpLD_od (p : Bool) (kvs : List (D × D)) (A : Bool → List D → Prop) (B : Bool → List (D × D) → Prop) : wpLD (some (.od p kvs)) A B = B p kvs := rfl
def wpOd (o : Option M) (B : Bool → List (D × D) → Prop) : Prop := match o with
  | some (.od p kvs) => B p kvs
  | _ => False
@[simp] theorem wpOd_od (p : Bool) (kvs : List (D × D)) (B : Bool → List (D × D) → Prop) : wpOd (some (.od p kvs)) B = B p kvs := rfl
@[simp ↓] theorem q_setI (i : Nat) (ix e : Ex) : Wp (evS cx (.setI i ix e) ρ) Q = Wp (evE cx e ρ) fun r ρ => Wp (MI.frz r ρ) fun d ρ => wpLD (ρ.get i)
    (fun _ _ => Wp (evE cx ix ρ) fun r ρ => wpM (ρ.get i) fun p xs => wpO (intAt (r.cont ρ)) fun k => wpO (ixOf xs.length k) fun j => Q .next (ρ.set i (some (.ol p (xs.set j d)))))
    (fun _ _ => Wp (evE cx ix ρ) fun r ρ => wpOd (ρ.get i) fun p kvs => wpO (r.cont ρ) fun k => isKey k = true ∧ kvs.length < Lim ∧ Q .next (ρ.set i (some (.od p (dput kvs k d))))) := by
  simp only [evS, s_bind]
  congr 1
  funext r ρ
  congr 1
  funext d ρ
  unfold wpM wpLD wpOd
  cases ρ.get i with
  | none => rfl
  | some m =>
    cases m with
    | ol p xs =>
      dsimp only
      rw [s_bind]
      congr 1
      funext r ρ
      cases ρ.get i with
      | none => rfl
      | some m =>
        cases m with
        | ol p xs =>
          dsimp only
          cases intAt (r.cont ρ) with
          | none => rfl
          | some k =>
            dsimp only
            rw [wpO_some]
            cases ixOf xs.length k <;> rfl
        | _ => rfl
    | od p xs =>
      dsimp only
      rw [s_bind]
      congr 1
      funext r ρ
      cases ρ.get i with
      | none => rfl
      | some m =>
        cases m with
        | od p xs =>
          dsimp only
          cases R.cont ρ r with
          | none => rfl
          | some k =>
            dsimp only
            rw [wpO_some]
            by_cases h : isKey k = true
            · by_cases h2 : xs.length < Lim
              · rw [if_pos (by rw [h, decide_eq_true h2]; rfl), eq_true h, eq_true h2, true_and, true_and]
                rfl
              · rw [if_neg (by rw [decide_eq_false h2, Bool.and_false]; exact Bool.false_ne_true), eq_false h2, false_and, and_false]
                rfl
            · rw [if_neg (by rw [Bool.not_eq_true] at h; rw [h, Bool.false_and]; exact Bool.false_ne_true), eq_false h, false_and]
              rfl
        | _ => rfl
    | _ => rfl
@[simp ↓] theorem q_expr (e : Ex) : Wp (evS cx (.expr e) ρ) Q = Wp (evE cx e ρ) fun _ ρ => Q .next ρ := by simp only [evS, s_bind, s_ok]
@[simp ↓] theorem q_ret (e : Ex) : Wp (evS cx (.ret e) ρ) Q = Wp (evE cx e ρ) fun r ρ => wpO (retM r ρ) fun m => Q (.ret m) ρ := by
  simp only [evS, s_bind]
  congr 1
  funext r ρ
  cases retM r ρ <;> rfl
@[simp ↓] theorem q_retN : Wp (evS cx .retN ρ) Q = Q (.ret (.sh .none)) ρ := by simp only [evS]; rfl
@[simp ↓] theorem q_pass : Wp (evS cx .pass ρ) Q = Q .next ρ := by simp only [evS]; rfl
@[simp ↓] theorem q_ite (c : Ex) (a b : List Sx) : Wp (evS cx (.ite c a b) ρ) Q = Wp (evT cx c ρ) fun k ρ => wpI k (Wp (evSs cx a ρ) Q) (Wp (evSs cx b ρ) Q) := by
  simp only [evS, s_bind, wp_ite, wpI]
def forF (cx : Cxt) (tg : Tg) (b : List Sx) (d : D) (ρ : Env) : Out Fl := match Tg.put tg d ρ with
  | none => .no
  | some ρ => evSs cx b ρ
@[simp ↓] theorem q_forF (tg : Tg) (b : List Sx) (d : D) : Wp (forF cx tg b d ρ) Q = wpO (Tg.put tg d ρ) fun ρ => Wp (evSs cx b ρ) Q := by
  unfold forF
  cases Tg.put tg d ρ <;> rfl
@[simp ↓] theorem q_for (tg : Tg) (it : It) (b : List Sx) : Wp (evS cx (.for tg it b) ρ) Q = Wp (evI cx it ρ) fun items ρ => Wp (forL (forF cx tg b) items ρ) Q := by
  simp only [evS, s_bind]
  rfl
variable (Qi : List D → Env → Prop)
@[simp ↓] theorem i_seq (e : Ex) : Wp (evI cx (.seq e) ρ) Qi = Wp (evE cx e ρ) fun r ρ => Wp (MI.frz r ρ) fun d ρ => wpO (seqOf d) fun ds => Qi ds ρ := by simp only [evI, s_bind, s_lift]
@[simp ↓] theorem i_rng (es : List Ex) : Wp (evI cx (.rng es) ρ) Qi = Wp (evDs cx es ρ) fun ds ρ => wpO (rngOf ds) fun ds => Qi ds ρ := by simp only [evI, s_bind, s_lift]
@[simp ↓] theorem i_enum (e : Ex) : Wp (evI cx (.enum e) ρ) Qi = Wp (evE cx e ρ) fun r ρ => Wp (MI.frz r ρ) fun d ρ => wpO ((seqOf d).map (enumD 0)) fun ds => Qi ds ρ := by simp only [evI, s_bind, s_lift]
@[simp ↓] theorem i_zip (a b : Ex) : Wp (evI cx (.zip a b) ρ) Qi = Wp (evE cx a ρ) fun r ρ => Wp (MI.frz r ρ) fun d ρ => Wp (evE cx b ρ) fun r ρ => Wp (MI.frz r ρ) fun e ρ => wpO (zipOf d e) fun ds => Qi ds ρ := by simp only [evI, s_bind, s_lift]
end
@[simp] theorem seqOf_l (xs : List D) : seqOf (.list xs) = some xs := rfl
@[simp] theorem seqOf_t (xs : List D) : seqOf (.tuple xs) = some xs := rfl
@[simp] theorem lstOf_l (xs : List D) : lstOf (.list xs) = some xs := rfl
@[simp] theorem put_name (i : Nat) (d : D) (ρ : Env) : Tg.put (.name i) d ρ = gd (free ρ i) (ρ.set i (some (.sh d))) := by simp only [Tg.put]
@[simp] theorem put_tup (ts : List Tg) (ds : List D) (ρ : Env) : Tg.put (.tup ts) (.tuple ds) ρ = Tg.puts ts ds ρ := by simp only [Tg.put]
@[simp] theorem put_tupL (ts : List Tg) (ds : List D) (ρ : Env) : Tg.put (.tup ts) (.list ds) ρ = Tg.puts ts ds ρ := by simp only [Tg.put]
@[simp] theorem puts_nil (ρ : Env) : Tg.puts [] [] ρ = some ρ := by simp only [Tg.puts]
@[simp] theorem puts_cons (t : Tg) (ts : List Tg) (d : D) (ds : List D) (ρ : Env) : Tg.puts (t :: ts) (d :: ds) ρ = (Tg.put t d ρ).bind (Tg.puts ts ds) := by simp only [Tg.puts]
@[simp] theorem gd_true {α : Type} (a : α) : gd true a = some a := rfl
/-! ### loops -/
def forQ (Inv : Nat → Env → Prop) (i : Nat) (Q : Fl → Env → Prop) (fl : Fl) (ρ : Env) : Prop := match fl with
  | .next => Inv (i + 1) ρ
  | .cont => Inv (i + 1) ρ
  | .brk => Q .next ρ
  | .ret m => Q (.ret m) ρ
theorem wp_forL {f : D → Env → Out Fl} {items : List D} {ρ : Env} {Q : Fl → Env → Prop} (Inv : Nat → Env → Prop) (h0 : Inv 0 ρ) (step : ∀ i d ρ, items[i]? = some d → Inv i ρ → Wp (f d ρ) (forQ Inv i Q)) (fin : ∀ ρ, Inv items.length ρ → Q .next ρ) : Wp (forL f items ρ) Q := by
  have key : ∀ (n i : Nat) (ρ : Env), items.length - i = n → i ≤ items.length → Inv i ρ → Wp (forL f (items.drop i) ρ) Q := by
    intro n
    induction n with
    | zero =>
      intro i ρ hn hi h
      have e : i = items.length := by omega
      subst e
      rw [List.drop_length]
      exact fin ρ h
    | succ n ih =>
      intro i ρ hn hi h
      have hl : i < items.length := by omega
      rw [List.drop_eq_getElem_cons hl]
      unfold forL
      have st := step i items[i] ρ (by simp [hl]) h
      cases e : f items[i] ρ with
      | no => rw [e] at st; exact st.elim
      | ex z ρ1 => rw [e] at st; exact st.elim
      | ok fl ρ1 =>
        rw [e] at st
        cases fl with
        | next => exact ih (i + 1) ρ1 (by omega) (by omega) st
        | cont => exact ih (i + 1) ρ1 (by omega) (by omega) st
        | brk => exact st
        | ret m => exact st
  simpa using key _ 0 ρ rfl (Nat.zero_le _) h0
@[simp ↓] theorem q_turn (cx : Cxt) (elt : Ex) (tg : Tg) (c : Option Ex) (d : D) (ρ : Env) (Q : Option D → Env → Prop) : Wp (turnEv cx elt tg c d ρ) Q = wpO (Tg.put tg d (wipeE ρ tg.vars)) fun ρ => Wp (condEv cx c ρ) fun k ρ => wpI k (Wp (evE cx elt ρ) fun r ρ => Wp (MI.frz r ρ) fun d ρ => Q (some d) ρ) (Q none ρ) := by
  unfold turnEv
  cases Tg.put tg d (wipeE ρ tg.vars) with
  | none => rfl
  | some ρ =>
    show Wp ((condEv cx c ρ).bind _) Q = _
    simp only [s_bind, wp_ite, wpI, s_ok]
    rfl
@[simp ↓] theorem q_cond0 (cx : Cxt) (ρ : Env) (Q : Bool → Env → Prop) : Wp (condEv cx none ρ) Q = Q true ρ := rfl
@[simp ↓] theorem q_cond1 (cx : Cxt) (e : Ex) (ρ : Env) (Q : Bool → Env → Prop) : Wp (condEv cx (some e) ρ) Q = Wp (evT cx e ρ) Q := rfl
/-- a comprehension, from its items on -/
def wpC (cx : Cxt) (elt : Ex) (tg : Tg) (c : Option Ex) (items : List D) (ρ1 : Env) (Q : R → Env → Prop) : Prop := keepOk tg.vars ρ1 = true ∧ Wp (compL (turnEv cx elt tg c) items [] ρ1) fun acc ρ2 => Q (.new acc) (backE ρ2 ρ1 tg.vars)
@[simp ↓] theorem s_comp (cx : Cxt) (elt : Ex) (tg : Tg) (it : It) (c : Option Ex) (ρ : Env) (Q : R → Env → Prop) : Wp (evE cx (.comp elt tg it c) ρ) Q = Wp (evI cx it ρ) fun items ρ1 => wpC cx elt tg c items ρ1 Q := by
  rw [evE_comp, s_bind]
  congr 1
  funext items ρ1
  unfold wpC
  by_cases h : keepOk tg.vars ρ1 = true
  · rw [if_pos h]
    cases compL (turnEv cx elt tg c) items [] ρ1 <;> simp [Wp, h]
  · rw [if_neg h]
    simp [Wp, h]
def compQ (Inv : Nat → List D → Env → Prop) (i : Nat) (acc : List D) (o : Option D) (ρ : Env) : Prop := match o with
  | some x => acc.length < Lim ∧ Inv (i + 1) (acc ++ [x]) ρ
  | none => Inv (i + 1) acc ρ
theorem wp_compL {f : D → Env → Out (Option D)} {items : List D} {ρ : Env} {Q : List D → Env → Prop} (Inv : Nat → List D → Env → Prop) (h0 : Inv 0 [] ρ) (step : ∀ i d acc ρ, items[i]? = some d → Inv i acc ρ → Wp (f d ρ) (compQ Inv i acc)) (fin : ∀ acc ρ, Inv items.length acc ρ → Q acc ρ) : Wp (compL f items [] ρ) Q := by
  have key : ∀ (n i : Nat) (acc : List D) (ρ : Env), items.length - i = n → i ≤ items.length → Inv i acc ρ → Wp (compL f (items.drop i) acc ρ) Q := by
    intro n
    induction n with
    | zero =>
      intro i acc ρ hn hi h
      have e : i = items.length := by omega
      subst e
      rw [List.drop_length]
      exact fin acc ρ h
    | succ n ih =>
      intro i acc ρ hn hi h
      have hl : i < items.length := by omega
      rw [List.drop_eq_getElem_cons hl]
      unfold compL
      have st := step i items[i] acc ρ (by simp [hl]) h
      cases e : f items[i] ρ with
      | no => rw [e] at st; exact st.elim
      | ex z ρ1 => rw [e] at st; exact st.elim
      | ok o ρ1 =>
        rw [e] at st
        cases o with
        | none => exact ih (i + 1) acc ρ1 (by omega) (by omega) st
        | some x =>
          dsimp only
          rw [if_pos st.1]
          exact ih (i + 1) _ ρ1 (by omega) (by omega) st.2
  simpa using key _ 0 [] ρ rfl (Nat.zero_le _) h0
theorem back_same {ρ ρ1 : Env} {vs : List Nat} (h : wipeE ρ vs = wipeE ρ1 vs) (hl : ∀ v ∈ vs, v < ρ1.length) : backE ρ ρ1 vs = ρ1 := by
  have len : ρ.length = ρ1.length := by
    have := congrArg List.length h
    rwa [wipeE_len, wipeE_len] at this
  apply List.ext_getElem?
  intro i
  by_cases hi : i < ρ1.length
  · have e : ∀ ρ2 : Env, i < ρ2.length → ρ2[i]? = some (Env.get ρ2 i) := fun ρ2 h => by
      unfold Env.get
      rw [List.getElem?_eq_getElem h]
      rfl
    rw [e _ (by rw [backE_len, len]; exact hi), e _ hi]
    congr 1
    by_cases hv : i ∈ vs
    · exact backE_in hv fun v hv => by rw [len]; exact hl v hv
    · rw [backE_out hv, ← wipeE_out (ρ := ρ) hv, h, wipeE_out hv]
  · rw [List.getElem?_eq_none (by rw [backE_len, len]; omega), List.getElem?_eq_none (by omega)]
/-- where nothing is changed: the items by a plain function -/
theorem wp_pure {cx : Cxt} {elt : Ex} {tg : Tg} {c : Option Ex} {items : List D} {ρ1 : Env} {Q : R → Env → Prop} (g : D → Option D) (hk : keepOk tg.vars ρ1 = true) (hl : items.length ≤ Lim)
    (step : ∀ d ∈ items, wpO (Tg.put tg d (wipeE ρ1 tg.vars)) fun ρ => Wp (condEv cx c ρ) fun k ρ => wpI k (Wp (evE cx elt ρ) fun r ρ => Wp (MI.frz r ρ) fun x ρ => g d = some x ∧ wipeE ρ tg.vars = wipeE ρ1 tg.vars) (g d = none ∧ wipeE ρ tg.vars = wipeE ρ1 tg.vars))
    (q : Q (.new (items.filterMap g)) ρ1) : wpC cx elt tg c items ρ1 Q := by
  have hv : ∀ v ∈ tg.vars, v < ρ1.length := fun v hv => by
    have := List.all_eq_true.mp hk v hv
    simp only [Bool.and_eq_true, decide_eq_true_eq] at this
    exact this.1
  refine ⟨hk, wp_compL (fun i acc ρ => acc = (items.take i).filterMap g ∧ wipeE ρ tg.vars = wipeE ρ1 tg.vars) ⟨by simp, rfl⟩ (fun i d acc ρ hd ⟨ha, hw⟩ => ?_) fun acc ρ ⟨ha, hw⟩ => ?_⟩
  · have hlt : i < items.length := (List.getElem?_eq_some_iff.mp hd).1
    have st := step d (List.mem_of_getElem? hd)
    have e : Wp (turnEv cx elt tg c d ρ) (fun o ρ => o = g d ∧ wipeE ρ tg.vars = wipeE ρ1 tg.vars) := by
      rw [q_turn, hw]
      cases hp : Tg.put tg d (wipeE ρ1 tg.vars) with
      | none => rw [hp] at st; exact st
      | some ρ2 =>
        rw [hp] at st
        refine Wp.mono (show Wp (condEv cx c ρ2) _ from st) fun k ρ3 h => ?_
        cases k with
        | true => exact Wp.mono h fun r ρ4 h => Wp.mono h fun x ρ5 h => ⟨h.1.symm, h.2⟩
        | false =>
          rw [wpI_false] at h ⊢
          exact ⟨h.1.symm, h.2⟩
    refine Wp.mono e fun o ρ' ⟨ho, hw'⟩ => ?_
    have ht : (items.take (i + 1)).filterMap g = (items.take i).filterMap g ++ (g d).toList := by
      rw [List.take_add_one, hd, List.filterMap_append]
      simp only [Option.toList, List.filterMap_cons, List.filterMap_nil]
      cases g d <;> rfl
    subst ho
    cases hg : g d with
    | none =>
      rw [hg] at ht
      exact ⟨by rw [ht, ha]; simp, hw'⟩
    | some x =>
      rw [hg] at ht
      refine ⟨?_, by rw [ht, ha]; simp, hw'⟩
      rw [ha]
      have h1 := List.length_filterMap_le g (items.take i)
      rw [List.length_take] at h1
      have h2 : items.length ≤ 16777216 := hl
      show _ < 16777216
      omega
  · rw [back_same hw hv, ha, List.take_length]
    exact q
end MI
namespace MI
open PySem
/-! ### the operations at known kinds -/
@[simp] theorem wpO_gd {α : Type} (b : Bool) (a : α) (Q : α → Prop) : wpO (gd b a) Q = (b = true ∧ Q a) := by cases b <;> simp [gd, wpO]
@[simp] theorem wpO_map {α β : Type} (o : Option α) (f : α → β) (Q : β → Prop) : wpO (o.map f) Q = wpO o fun a => Q (f a) := by cases o <;> rfl
@[simp] theorem bind_gd {α β : Type} (b : Bool) (a : α) (f : α → Option β) : (gd b a).bind f = if b = true then f a else none := by cases b <;> rfl
@[simp] theorem wpO_bind {α β : Type} (o : Option α) (f : α → Option β) (Q : β → Prop) : wpO (o.bind f) Q = wpO o fun a => wpO (f a) Q := by cases o <;> rfl
@[simp] theorem wpI_ff (b : Bool) (P : Prop) : wpI b P False = (b = true ∧ P) := by cases b <;> simp [wpI]
theorem wpI_of {b : Bool} {P Q : Prop} (h1 : b = true → P) (h2 : b = false → Q) : wpI b P Q := by cases b <;> simp_all [wpI]
@[simp] theorem add_i (a b : Int) : opBin .add (.int a) (.int b) = some (.val (.int (a + b))) := rfl
@[simp] theorem add_l (a b : List D) : opBin .add (.list a) (.list b) = gd (decide (a.length + b.length ≤ Lim)) (.new (a ++ b)) := rfl
@[simp] theorem add_t (a b : List D) : opBin .add (.tuple a) (.tuple b) = gd (decide (a.length + b.length ≤ Lim)) (.val (.tuple (a ++ b))) := rfl
@[simp] theorem sub_i (a b : Int) : opBin .sub (.int a) (.int b) = some (.val (.int (a - b))) := rfl
@[simp] theorem mul_i (a b : Int) : opBin .mul (.int a) (.int b) = gd (decide (a.natAbs < 2 ^ 64) || decide (b.natAbs < 2 ^ 64)) (.val (.int (a * b))) := rfl
@[simp] theorem fdiv_i (a b : Int) : opBin .fdiv (.int a) (.int b) = gd (decide (0 < b) && decide (b < 1000000000000000000000000000000000000000000000000000000000000)) (.val (.int (a / b))) := by
  show (gd _ _).map _ = _
  generalize (decide (0 < b) && decide (b < 1000000000000000000000000000000000000000000000000000000000000)) = c
  cases c <;> rfl
@[simp] theorem mod_i (a b : Int) : opBin .mod (.int a) (.int b) = gd (decide (0 < b)) (.val (.int (a % b))) := by
  show (gd _ _).map _ = _
  generalize decide (0 < b) = c
  cases c <;> rfl
@[simp] theorem pow_i (a b : Int) : opBin .pow (.int a) (.int b) = gd (decide (0 ≤ b) && decide (b ≤ 1000000) && decide (a.natAbs < 2 ^ 64)) (.val (.int (a ^ b.toNat))) := by
  show (gd _ _).map _ = _
  generalize (decide (0 ≤ b) && decide (b ≤ 1000000) && decide (a.natAbs < 2 ^ 64)) = c
  cases c <;> rfl
@[simp] theorem idx_di (kvs : List (D × D)) (i : Int) : opIdx (.dict kvs) (.int i) = (dfind (.int i) kvs).map .val := rfl
@[simp] theorem idx_ds (kvs : List (D × D)) (x : Str) : opIdx (.dict kvs) (.str x) = (dfind (.str x) kvs).map .val := rfl
@[simp] theorem in_di (kvs : List (D × D)) (i : Int) : opCmp .isin (.int i) (.dict kvs) = some (dfind (.int i) kvs).isSome := rfl
@[simp] theorem notin_di (kvs : List (D × D)) (i : Int) : opCmp .notin (.int i) (.dict kvs) = some (!(dfind (.int i) kvs).isSome) := rfl
@[simp] theorem isKey_i (i : Int) : isKey (.int i) = true := rfl
@[simp] theorem isKey_s (x : Str) : isKey (.str x) = true := rfl
@[simp] theorem lt_i (a b : Int) : opCmp .lt (.int a) (.int b) = some (decide (a < b)) := rfl
@[simp] theorem le_i (a b : Int) : opCmp .le (.int a) (.int b) = some (decide (a ≤ b)) := rfl
@[simp] theorem gt_i (a b : Int) : opCmp .gt (.int a) (.int b) = some (decide (b < a)) := rfl
@[simp] theorem ge_i (a b : Int) : opCmp .ge (.int a) (.int b) = some (decide (b ≤ a)) := rfl
@[simp] theorem isN_i (a : D) : opCmp .isN a .none = some (isNone a) := rfl
@[simp] theorem notN_i (a : D) : opCmp .notN a .none = some (!isNone a) := rfl
@[simp] theorem eq_i (a b : Int) : opCmp .eq (.int a) (.int b) = some (decide (a = b)) := by
  show some (PyData.eqv (.int a) (.int b)) = _
  simp only [PyData.eqv]
  rfl
@[simp] theorem ne_i (a b : Int) : opCmp .ne (.int a) (.int b) = some (!decide (a = b)) := by
  show (opCmp .eq (.int a) (.int b)).map not = _
  rw [eq_i]
  rfl
@[simp] theorem eq_lnil (xs : List D) : opCmp .eq (.list xs) (.list []) = some xs.isEmpty := by
  cases xs with
  | nil => rfl
  | cons x xs => rfl
@[simp] theorem ne_lnil (xs : List D) : opCmp .ne (.list xs) (.list []) = some (!xs.isEmpty) := by
  show (opCmp .eq (.list xs) (.list [])).map not = _
  rw [eq_lnil]
  rfl
@[simp] theorem idx_l (xs : List D) (i : Int) : opIdx (.list xs) (.int i) = (atD xs i).map R.val := rfl
@[simp] theorem idx_t (xs : List D) (i : Int) : opIdx (.tuple xs) (.int i) = (atD xs i).map R.val := rfl
theorem at_lt {xs : List D} {i : Int} {d : D} (h0 : 0 ≤ i) (h1 : i < xs.length) (h : xs[i.toNat]? = some d) : atD xs i = some d := by
  unfold atD ixOf
  rw [if_pos h0, if_pos h1]
  exact h
@[simp] theorem at0 (a : D) (xs : List D) : atD (a :: xs) 0 = some a := at_lt (by decide) (by simp only [List.length_cons]; omega) rfl
@[simp] theorem at1 (a b : D) (xs : List D) : atD (a :: b :: xs) 1 = some b := at_lt (by decide) (by simp only [List.length_cons]; omega) rfl
@[simp] theorem at2 (a b c : D) (xs : List D) : atD (a :: b :: c :: xs) 2 = some c := at_lt (by decide) (by simp only [List.length_cons]; omega) rfl
@[simp] theorem at3 (a b c d : D) (xs : List D) : atD (a :: b :: c :: d :: xs) 3 = some d := at_lt (by decide) (by simp only [List.length_cons]; omega) rfl
theorem at_ints {cells : List Int} {i : Int} (h0 : 0 ≤ i) (h1 : i < cells.length) : ∃ c, atD (cells.map .int) i = some (.int c) := by
  have h2 : i.toNat < cells.length := by omega
  exact ⟨cells[i.toNat], at_lt h0 (by simpa using h1) (by simp [h2])⟩
@[simp] theorem len_l (xs : List D) : opB1 .len (.list xs) = some (.val (.int xs.length)) := rfl
@[simp] theorem len_t (xs : List D) : opB1 .len (.tuple xs) = some (.val (.int xs.length)) := rfl
@[simp] theorem abs_i (i : Int) : opB1 .abs (.int i) = some (.val (.int (if i < 0 then -i else i))) := rfl
@[simp] theorem int_i (i : Int) : opB1 .int (.int i) = some (.val (.int i)) := rfl
@[simp] theorem int_b (i : Bool) : opB1 .int (.bool i) = some (.val (.int (if i then 1 else 0))) := rfl
@[simp] theorem list_l (xs : List D) : opB1 .list (.list xs) = some (.new xs) := rfl
@[simp] theorem list_t (xs : List D) : opB1 .list (.tuple xs) = some (.new xs) := rfl
@[simp] theorem tuple_l (xs : List D) : opB1 .tuple (.list xs) = some (.val (.tuple xs)) := rfl
@[simp] theorem tuple_t (xs : List D) : opB1 .tuple (.tuple xs) = some (.val (.tuple xs)) := rfl
@[simp] theorem repr_d (d : D) : opB1 .repr d = reprD d := rfl
@[simp] theorem min_ii (a b : Int) : opB2 .min (.int a) (.int b) = some (.val (.int (if b < a then b else a))) := rfl
@[simp] theorem max_ii (a b : Int) : opB2 .max (.int a) (.int b) = some (.val (.int (if b > a then b else a))) := rfl
@[simp] theorem sl_l (xs : List D) (lo hi : Option Int) : opSl (.list xs) lo hi = some (.new (cutL xs lo hi)) := rfl
@[simp] theorem sl_t (xs : List D) (lo hi : Option Int) : opSl (.tuple xs) lo hi = some (.val (.tuple (cutL xs lo hi))) := rfl
@[simp] theorem rev_l (xs : List D) : opRev (.list xs) = some (.new xs.reverse) := rfl
@[simp] theorem rev_t (xs : List D) : opRev (.tuple xs) = some (.val (.tuple xs.reverse)) := rfl
@[simp] theorem app_l (xs : List D) (d : D) : opMu .append xs [d] = gd (decide (xs.length < Lim)) (.none, xs ++ [d]) := rfl
@[simp] theorem rng_1 (j : Int) : rngOf [.int j] = gd (small62 j) (rngD 0 j.toNat 1) := rfl
@[simp] theorem endOf_ret (P : M → List M → Prop) (ms : List M) (m : M) (ρ : Env) : endOf P ms (.ret m) ρ = wpO (finOf ρ ms 0) (P m) := by
  show (∃ fin, _ ∧ _) = _
  cases finOf ρ ms 0 <;> simp [wpO]
@[simp] theorem endOf_next (P : M → List M → Prop) (ms : List M) (ρ : Env) : endOf P ms .next ρ = wpO (finOf ρ ms 0) (P (.sh .none)) := by
  show (∃ fin, _ ∧ _) = _
  cases finOf ρ ms 0 <;> simp [wpO]
@[simp] theorem fin_nil (ρ : Env) (n : Nat) : finOf ρ [] n = some [] := rfl
@[simp] theorem fin_sh (ρ : Env) (d : D) (ms : List M) (n : Nat) : finOf ρ (.sh d :: ms) n = (finOf ρ ms (n + 1)).map (.sh d :: ·) := rfl
@[simp] theorem fin_sc (ρ : Env) (d : List Int) (ms : List M) (n : Nat) : finOf ρ (.sc d :: ms) n = (finOf ρ ms (n + 1)).map (.sc d :: ·) := rfl
@[simp] theorem fin_ol (ρ : Env) (p : Bool) (d : List D) (ms : List M) (n : Nat) : finOf ρ (.ol p d :: ms) n = ((ρ.get n).bind fun m' => gd (m'.pinned) m').bind fun x => (finOf ρ ms (n + 1)).map (x :: ·) := rfl
@[simp] theorem fin_od (ρ : Env) (p : Bool) (d : List (D × D)) (ms : List M) (n : Nat) : finOf ρ (.od p d :: ms) n = ((ρ.get n).bind fun m' => gd (m'.pinned) m').bind fun x => (finOf ρ ms (n + 1)).map (x :: ·) := rfl
@[simp] theorem ix3_0 : ixOf 3 0 = some 0 := rfl
@[simp] theorem ix3_1 : ixOf 3 1 = some 1 := rfl
@[simp] theorem ix3_2 : ixOf 3 2 = some 2 := rfl
end MI
namespace MI
open PySem
def f_law_draw : Fd := ⟨2, 7, [.ite (.cmp .gt (.idx (.var 0) (.int 2)) (.int 0)) [.asg 5 (.bin .mod (.idx (.var 0) (.int 2)) (.var 1)), .setI 0 (.int 2) (.bin .fdiv (.idx (.var 0) (.int 2)) (.var 1)), .ret (.var 5)] [], .asg 2 (.idx (.var 0) (.int 1)), .setI 0 (.int 1) (.bin .add (.var 2) (.int 1)), .asg 3 (.bin .add (.bin .mul (.int 3571) (.var 2)) (.int 307)), .ite (.cmp .ne (.idx (.var 0) (.int 0)) (.lst [])) [.asg 3 (.idx (.idx (.var 0) (.int 0)) (.bin .mod (.var 2) (.bi1 .len (.idx (.var 0) (.int 0)))))] [], .ite (.and (.cmp .lt (.var 2) (.bi1 .len (.idx (.var 0) (.int 0)))) (.cmp .ge (.bi1 .abs (.var 3)) (.bin .pow (.int 10) (.int 18)))) [.asg 6 (.bin .add (.bin .mul (.int 2) (.bi1 .abs (.var 3))) (.bi1 .int (.cmp .lt (.var 3) (.int 0)))), .setI 0 (.int 2) (.bin .fdiv (.var 6) (.var 1)), .ret (.bin .mod (.var 6) (.var 1))] [], .asg 4 (.bin .mod (.bin .pow (.bin .add (.bin .add (.bin .mod (.var 3) (.int 2147483543)) (.bin .mul (.int 60013) (.var 2))) (.int 151)) (.int 5)) (.int 2147483647)), .asg 4 (.bin .mod (.bin .pow (.bin .add (.bin .add (.bin .mul (.var 4) (.bin .add (.var 2) (.int 20021))) (.bin .mul (.bin .mul (.int 71011) (.var 2)) (.var 2))) (.int 29)) (.int 3)) (.int 2147483579)), .ret (.bin .mod (.bin .fdiv (.var 4) (.int 32)) (.var 1))]⟩
/-- a pen: its cells, how often it was asked, what is left of a great number -/
abbrev pen (cells : List Int) (at_ great : Int) : List D := [.list (cells.map .int), .int at_, .int great]
def DrawP (cells : List Int) (at_ many : Int) (m : M) (fin : List M) : Prop := ∃ v at2 g2, m = .sh (.int v) ∧ 0 ≤ v ∧ v < many ∧ at_ ≤ at2 ∧ at2 ≤ at_ + 1 ∧ 0 ≤ g2 ∧ fin = [.ol true (pen cells at2 g2), .sh (.int many)]
theorem draw_spec {prog : List Fd} {fuel k f : Nat} (hf : prog[f]? = some f_law_draw) (cells : List Int) {at_ great many : Int} (h1 : 0 < many) (h2 : many < 1000000000000000000000000000000000000000000000000000000000000) (h3 : 0 ≤ at_) (h4 : at_ < 1000000) (h5 : 0 ≤ great) :
    Ret (run prog fuel (k + 1) f [.ol true (pen cells at_ great), .sh (.int many)]) (DrawP cells at_ many) := by
  refine ret_run hf rfl (by decide) rfl ?_
  have em : ∀ x : Int, 0 ≤ x % many ∧ x % many < many := fun x => ⟨Int.emod_nonneg _ (by omega), Int.emod_lt_of_pos _ h1⟩
  have small : ∀ c : Int, (c % 2147483543 + 60013 * at_ + 151).natAbs < 18446744073709551616 := fun c => by omega
  have mid : ∀ x : Int, 0 ≤ x % 2147483647 ∧ x % 2147483647 < 2147483647 := fun x => by omega
  have last : ∀ x : Int, (x % 2147483647 * (at_ + 20021) + 71011 * at_ * at_ + 29).natAbs < 18446744073709551616 := fun x => by
    obtain ⟨m1, m2⟩ := mid x
    have b1 : x % 2147483647 * (at_ + 20021) ≤ 2147483647 * 1020021 := Int.mul_le_mul (by omega) (by omega) (by omega) (by omega)
    have b0 : 0 ≤ x % 2147483647 * (at_ + 20021) := Int.mul_nonneg m1 (by omega)
    have b2 : 71011 * at_ * at_ ≤ 71011 * 1000000 * 1000000 := Int.mul_le_mul (by omega) (by omega) (by omega) (by omega)
    have b3 : 0 ≤ 71011 * at_ * at_ := Int.mul_nonneg (by omega) h3
    omega
  have done : ∀ (x g2 : Int), 0 ≤ g2 → DrawP cells at_ many (M.sh (.int (x % many))) [.ol true [.list (cells.map .int), .int (at_ + 1), .int g2], .sh (.int many)] := fun x g2 h => ⟨x % many, at_ + 1, g2, rfl, (em x).1, (em x).2, by omega, by omega, h, rfl⟩
  have tail : ∀ (c : Int) (P : Prop), P → ((c % 2147483543 + 60013 * at_ + 151).natAbs < 18446744073709551616 ∧ (((c % 2147483543 + 60013 * at_ + 151) ^ 5 % 2147483647).natAbs < 18446744073709551616 ∨ (at_ + 20021).natAbs < 18446744073709551616) ∧ ((71011 * at_).natAbs < 18446744073709551616 ∨ at_.natAbs < 18446744073709551616) ∧
      ((c % 2147483543 + 60013 * at_ + 151) ^ 5 % 2147483647 * (at_ + 20021) + 71011 * at_ * at_ + 29).natAbs < 18446744073709551616 ∧ P) := fun c P p => ⟨small c, .inr (by omega), .inr (by omega), last _, p⟩
  simp [f_law_draw, h1, h2]
  by_cases hg : 0 < great
  · simp [hg]
    exact ⟨great % many, at_, great / many, rfl, (em _).1, (em _).2, by omega, by omega, Int.ediv_nonneg h5 (by omega), rfl⟩
  · simp [hg]
    have dv : ∀ x : Int, 0 ≤ x → 0 ≤ x / many := fun x h => Int.ediv_nonneg h (by omega)
    cases cells with
    | nil =>
      simp
      refine wpI_of (fun h => ?_) fun _ => tail _ _ (done _ _ h5)
      simp at h
      omega
    | cons c0 cs =>
      obtain ⟨c, hc⟩ := at_ints (cells := c0 :: cs) (i := at_ % ((c0 :: cs).length : Int)) (Int.emod_nonneg _ (by simp; omega)) (Int.emod_lt_of_pos _ (by simp only [List.length_cons]; omega))
      simp at hc
      simp [hc]
      refine wpI_of (fun _ => wpI_of (fun _ => ⟨⟨h1, h2⟩, h1, done _ _ (dv _ ?_)⟩) fun _ => tail _ _ ⟨h1, done _ _ h5⟩) fun _ => tail _ _ ⟨h1, done _ _ h5⟩
      split <;> omega
end MI
namespace MI
open PySem
/-! ### sizes of texts -/
mutual
def gdD : D → Bool
  | .int i => decide (i.natAbs < 10 ^ 51)
  | .str x => decide ((reprText x).length ≤ 43)
  | .list xs => gdDs xs
  | .tuple xs => gdDs xs
  | .dict kvs => kvs.isEmpty
  | _ => true
def gdDs : List D → Bool
  | [] => true
  | x :: xs => gdD x && gdDs xs
def cnt : D → Nat
  | .list xs => 1 + cnts xs
  | .tuple xs => 1 + cnts xs
  | _ => 1
def cnts : List D → Nat
  | [] => 0
  | x :: xs => cnt x + cnts xs
end
theorem join_len (ts : List Str) : (Str.join ", " ts).length ≤ piled ts := by
  by_cases h : ts = []
  · subst h; exact Nat.zero_le _
  · have := join_length_add ts h
    omega
theorem textFrom_le : ∀ (ts : List Str) (k : Nat) (acc : Str), (textFrom k acc ts).length ≤ acc.length + piled ts
  | [], k, acc => by show acc.length ≤ _; omega
  | t :: ts, k, acc => by
    have ih := textFrom_le ts (k + 1) (acc ++ (if k > 0 then ", " else "" : String) ++ t)
    rw [piled_cons]
    show (textFrom (k + 1) _ ts).length ≤ _
    have e : (acc ++ (if k > 0 then ", " else "" : String) ++ t : Str).length ≤ acc.length + 2 + t.length := by
      rw [strLen_append, strLen_append]
      have : (Str.ofString (if k > 0 then ", " else "")).length ≤ 2 := by split <;> decide
      omega
    omega
mutual
theorem shown_le : ∀ d : D, gdD d = true → d.shown.length + 2 ≤ 55 * cnt d ∧ d.showable = true
  | .none, _ => by simp only [PyData.shown, cnt, PyData.showable]; exact ⟨by decide, trivial⟩
  | .bool b, _ => by
    simp only [PyData.shown, cnt, PyData.showable]
    cases b <;> exact ⟨by decide, trivial⟩
  | .int i, h => by
    have h' : i.natAbs < 10 ^ 51 := by simpa only [gdD, decide_eq_true_eq] using h
    have e := int_text_length_le10 (a := i) (k := 51) (by decide) h'
    simp only [PyData.shown, cnt, PyData.showable, decide_eq_true_eq]
    refine ⟨?_, ?_⟩
    · have e2 : (Str.ofString (toString i)).length = (toString i).length := ofString_length _
      show (Str.ofString (toString i)).length + 2 ≤ _
      omega
    · by_cases hz : i.natAbs = 0
      · rw [hz]; decide
      · have : i.natAbs.log2 < 170 := (Nat.log2_lt hz).mpr (Nat.lt_of_lt_of_le h' (by decide))
        omega
  | .str x, h => by
    have h' : (reprText x).length ≤ 43 := by simpa only [gdD, decide_eq_true_eq] using h
    simp only [PyData.shown, cnt, PyData.showable]
    exact ⟨by omega, trivial⟩
  | .list xs, h => by
    obtain ⟨h1, h2⟩ := showns_le xs (by simpa only [gdD] using h)
    simp only [PyData.shown, cnt, PyData.showable]
    refine ⟨?_, h2⟩
    have e := textFrom_le (PyData.shownAll xs) 0 "["
    unfold listText
    rw [strLen_append]
    have e1 : (Str.ofString "[").length = 1 := rfl
    have e2 : (Str.ofString "]").length = 1 := rfl
    omega
  | .tuple xs, h => by
    obtain ⟨h1, h2⟩ := showns_le xs (by simpa only [gdD] using h)
    simp only [PyData.shown, cnt, PyData.showable]
    refine ⟨?_, h2⟩
    have e := join_len (PyData.shownAll xs)
    unfold tupleText
    rw [strLen_append, strLen_append]
    have e1 : (Str.ofString "(").length = 1 := rfl
    have e2 : (Str.ofString (if (PyData.shownAll xs).length == 1 then ",)" else ")")).length ≤ 2 := by split <;> decide
    omega
  | .dict kvs, h => by
    have : kvs = [] := by simpa [gdD] using h
    subst this
    simp only [PyData.shown, PyData.shownKv, cnt, PyData.showable, PyData.showableKv]
    exact ⟨by decide, trivial⟩
theorem showns_le : ∀ xs : List D, gdDs xs = true → piled (PyData.shownAll xs) ≤ 55 * cnts xs ∧ PyData.showableAll xs = true
  | [], _ => ⟨Nat.le_refl _, by simp [PyData.showableAll]⟩
  | x :: xs, h => by
    have h' : gdD x = true ∧ gdDs xs = true := by simpa [gdDs] using h
    obtain ⟨a1, a2⟩ := shown_le x h'.1
    obtain ⟨b1, b2⟩ := showns_le xs h'.2
    simp only [PyData.shownAll, cnts, PyData.showableAll, piled_cons]
    exact ⟨by omega, by simp [a2, b2]⟩
end
/-- a value that the laws show: small, not deep -/
structure Sm (c : Nat) (d : D) : Prop where
  gd : gdD d = true
  cn : cnt d ≤ c
  dp : d.depth ≤ 8
theorem repr_of {a b : D} {c : Nat} (ha : Sm c a) (hb : Sm c b) (hc : c ≤ 100000) (hp : (a.plain = true ∧ b.plain = true) ∨ (noList a = true ∧ noList b = true)) : opB1 .repr (.tuple [a, b]) = some (.val (.str (PyData.tuple [a, b]).shown)) := by
  show reprD _ = _
  unfold reprD
  have h : okRepr (.tuple [a, b]) = true := by
    have g : gdD (.tuple [a, b]) = true := by simp [gdD, gdDs, ha.gd, hb.gd]
    obtain ⟨s1, s2⟩ := shown_le _ g
    have k : cnt (.tuple [a, b]) ≤ 200001 := by
      have h1 := ha.cn
      have h2 := hb.cn
      simp only [cnt, cnts]
      omega
    unfold okRepr
    simp only [Bool.and_eq_true, decide_eq_true_eq, Bool.or_eq_true]
    refine ⟨⟨⟨s2, ?_⟩, ?_⟩, ?_⟩
    · show _ ≤ 16777216
      omega
    · have h1 := ha.dp
      have h2 := hb.dp
      simp only [PyData.depth, PyData.depthAll]
      omega
    · rcases hp with ⟨p, q⟩ | ⟨p, q⟩
      · exact .inl (by simp [PyData.plain, PyData.plainAll, p, q])
      · exact .inr (by simp [noList, noLists, p, q])
  rw [h]
  rfl
theorem cnts_append (a b : List D) : cnts (a ++ b) = cnts a + cnts b := by
  induction a with
  | nil => simp [cnts]
  | cons x xs ih => simp [cnts, ih]; omega
theorem gdDs_append (a b : List D) : gdDs (a ++ b) = (gdDs a && gdDs b) := by
  induction a with
  | nil => simp [gdDs]
  | cons x xs ih => simp [gdDs, ih, Bool.and_assoc]
/-! ### calls that draw -/
def PenQ (cells : List Int) (at_ n : Int) (P : M → Prop) (rest : List M) (m : M) (fin : List M) : Prop := ∃ at2 g2, fin = .ol true (pen cells at2 g2) :: rest ∧ at_ ≤ at2 ∧ at2 ≤ at_ + n ∧ 0 ≤ g2 ∧ P m
@[simp] theorem own_ol (p : Bool) (d : List D) : M.isOwn (.ol p d) = true := rfl
@[simp] theorem own_od (p : Bool) (d : List (D × D)) : M.isOwn (.od p d) = true := rfl
@[simp] theorem own_sh (d : D) : M.isOwn (.sh d) = false := rfl
@[simp] theorem res_sh (d : D) : M.res (.sh d) = .val d := rfl
@[simp] theorem res_ol (p : Bool) (d : List D) : M.res (.ol p d) = .new d := rfl
@[simp] theorem res_od (p : Bool) (d : List (D × D)) : M.res (.od p d) = .newd d := rfl
theorem call_pen {cx : Cxt} {f j : Nat} {ρ : Env} {p : Bool} {cells : List Int} {at_ g n : Int} {ds : List D} {src : List Arg} {P : M → Prop} {Q : R → Env → Prop} (hj : ρ.get j = some (.ol p (pen cells at_ g))) (hsrc : src = (List.range (ds.length + 1)).map .e) (hl : ds.length ≤ 4) (hr : Ret (cx.φ f (.ol true (pen cells at_ g) :: ds.map .sh)) (PenQ cells at_ n P (ds.map .sh)))
    (h : ∀ m at2 g2, P m → at_ ≤ at2 → at2 ≤ at_ + n → 0 ≤ g2 → Q m.res (ρ.set j (some (.ol p (pen cells at2 g2))))) : Wp (callR cx f (.own j :: ds.map .val) src ρ) Q := by
  have own : ((Env.get ρ j).map M.isOwn).getD false = true := by rw [hj]; rfl
  subst hsrc
  match ds, hl with
  | [], _ =>
    refine wp_call (ms := [.ol true (pen cells at_ g)]) ?_ ?_ (by simp [srcOk, List.range_succ]) hr ?_
    · simp [argsOf, R.arg, hj, List.range_succ]
    · simp [ownsOf, own, List.range_succ]
    · rintro m fin ⟨at2, g2, rfl, a1, a2, a3, pm⟩
      refine ⟨rfl, ?_⟩
      simp [ownsOf, own, List.range_succ, backOf, hj]
      exact h m at2 g2 pm a1 a2 a3
  | [d1], _ =>
    refine wp_call (ms := [.ol true (pen cells at_ g), .sh d1]) ?_ ?_ (by simp [srcOk, List.range_succ]) hr ?_
    · simp [argsOf, R.arg, hj, List.range_succ]
    · simp [ownsOf, own, List.range_succ]
    · rintro m fin ⟨at2, g2, rfl, a1, a2, a3, pm⟩
      refine ⟨rfl, ?_⟩
      simp [ownsOf, own, List.range_succ, backOf, hj]
      exact h m at2 g2 pm a1 a2 a3
  | [d1, d2], _ =>
    refine wp_call (ms := [.ol true (pen cells at_ g), .sh d1, .sh d2]) ?_ ?_ (by simp [srcOk, List.range_succ]) hr ?_
    · simp [argsOf, R.arg, hj, List.range_succ]
    · simp [ownsOf, own, List.range_succ]
    · rintro m fin ⟨at2, g2, rfl, a1, a2, a3, pm⟩
      refine ⟨rfl, ?_⟩
      simp [ownsOf, own, List.range_succ, backOf, hj]
      exact h m at2 g2 pm a1 a2 a3
  | [d1, d2, d3], _ =>
    refine wp_call (ms := [.ol true (pen cells at_ g), .sh d1, .sh d2, .sh d3]) ?_ ?_ (by simp [srcOk, List.range_succ]) hr ?_
    · simp [argsOf, R.arg, hj, List.range_succ]
    · simp [ownsOf, own, List.range_succ]
    · rintro m fin ⟨at2, g2, rfl, a1, a2, a3, pm⟩
      refine ⟨rfl, ?_⟩
      simp [ownsOf, own, List.range_succ, backOf, hj]
      exact h m at2 g2 pm a1 a2 a3
  | [d1, d2, d3, d4], _ =>
    refine wp_call (ms := [.ol true (pen cells at_ g), .sh d1, .sh d2, .sh d3, .sh d4]) ?_ ?_ (by simp [srcOk, List.range_succ]) hr ?_
    · simp [argsOf, R.arg, hj, List.range_succ]
    · simp [ownsOf, own, List.range_succ]
    · rintro m fin ⟨at2, g2, rfl, a1, a2, a3, pm⟩
      refine ⟨rfl, ?_⟩
      simp [ownsOf, own, List.range_succ, backOf, hj]
      exact h m at2 g2 pm a1 a2 a3
end MI
namespace MI
open PySem
/-! ### how small, how deep, of which kind (p: no dict; else no list) -/
structure An (p : Bool) (c k : Nat) (d : D) : Prop where
  gd : gdD d = true
  cn : cnt d ≤ c
  dp : d.depth ≤ k
  kd : if p then d.plain = true else noList d = true
structure Ans (p : Bool) (c k : Nat) (xs : List D) : Prop where
  gd : gdDs xs = true
  cn : cnts xs ≤ c
  dp : PyData.depthAll xs ≤ k
  kd : if p then PyData.plainAll xs = true else noLists xs = true
theorem An.mono {p : Bool} {c k c' k' : Nat} {d : D} (h : An p c k d) (h1 : c ≤ c') (h2 : k ≤ k') : An p c' k' d := ⟨h.gd, Nat.le_trans h.cn h1, Nat.le_trans h.dp h2, h.kd⟩
theorem Ans.mono {p : Bool} {c k c' k' : Nat} {d : List D} (h : Ans p c k d) (h1 : c ≤ c') (h2 : k ≤ k') : Ans p c' k' d := ⟨h.gd, Nat.le_trans h.cn h1, Nat.le_trans h.dp h2, h.kd⟩
theorem Ans.nil {p : Bool} : Ans p 0 0 [] := ⟨rfl, Nat.le_refl _, Nat.le_refl _, by cases p <;> rfl⟩
theorem Ans.cons {p : Bool} {c1 c2 k1 k2 : Nat} {x : D} {xs : List D} (h : An p c1 k1 x) (t : Ans p c2 k2 xs) : Ans p (c1 + c2) (max k1 k2) (x :: xs) := by
  refine ⟨by simp [gdDs, h.gd, t.gd], ?_, ?_, ?_⟩
  · simp only [cnts]
    have := h.cn
    have := t.cn
    omega
  · simp only [PyData.depthAll]
    have := h.dp
    have := t.dp
    omega
  · have a := h.kd
    have b := t.kd
    cases p
    · simp only [noLists] at *
      simp_all
    · simp only [PyData.plainAll] at *
      simp_all
theorem An.tup {p : Bool} {c k : Nat} {xs : List D} (h : Ans p c k xs) : An p (1 + c) (k + 1) (.tuple xs) := by
  refine ⟨by simp only [gdD]; exact h.gd, by simp only [cnt]; have := h.cn; omega, by simp only [PyData.depth]; have := h.dp; omega, ?_⟩
  have a := h.kd
  cases p
  · simp only [noList] at *; simp_all
  · simp only [PyData.plain] at *; simp_all
theorem An.lst {c k : Nat} {xs : List D} (h : Ans true c k xs) : An true (1 + c) (k + 1) (.list xs) := by
  refine ⟨by simp only [gdD]; exact h.gd, by simp only [cnt]; have := h.cn; omega, by simp only [PyData.depth]; have := h.dp; omega, ?_⟩
  have a := h.kd
  simp only [PyData.plain] at *; simp_all
theorem Ans.append {p : Bool} {c1 c2 k1 k2 : Nat} {xs ys : List D} (h : Ans p c1 k1 xs) (t : Ans p c2 k2 ys) : Ans p (c1 + c2) (max k1 k2) (xs ++ ys) := by
  refine ⟨by rw [gdDs_append, h.gd, t.gd]; rfl, by rw [cnts_append]; have := h.cn; have := t.cn; omega, ?_, ?_⟩
  · have e : ∀ xs : List D, PyData.depthAll (xs ++ ys) = max (PyData.depthAll xs) (PyData.depthAll ys) := by
      intro xs
      induction xs with
      | nil => simp [PyData.depthAll]
      | cons x xs ih => simp only [List.cons_append, PyData.depthAll, ih]; omega
    rw [e]
    have := h.dp
    have := t.dp
    omega
  · have a := h.kd
    have b := t.kd
    cases p
    · have e : ∀ xs : List D, noLists (xs ++ ys) = (noLists xs && noLists ys) := by
        intro xs
        induction xs with
        | nil => simp [noLists]
        | cons x xs ih => simp [noLists, ih, Bool.and_assoc]
      simp_all
    · have e : ∀ xs : List D, PyData.plainAll (xs ++ ys) = (PyData.plainAll xs && PyData.plainAll ys) := by
        intro xs
        induction xs with
        | nil => simp [PyData.plainAll]
        | cons x xs ih => simp [PyData.plainAll, ih, Bool.and_assoc]
      simp_all
/-- numbers below 100, and None -/
def Flat (xs : List D) : Prop := ∀ x ∈ xs, x = .none ∨ ∃ i : Int, x = .int i ∧ i.natAbs < 10000000000
theorem An.int (p : Bool) {i : Int} (h : i.natAbs < 10000000000) : An p 1 0 (.int i) := ⟨by simp only [gdD, decide_eq_true_eq]; exact Nat.lt_trans h (by decide), Nat.le_refl _, Nat.le_refl _, by cases p <;> rfl⟩
theorem An.non (p : Bool) : An p 1 0 .none := ⟨rfl, Nat.le_refl _, Nat.le_refl _, by cases p <;> rfl⟩
theorem Ans.flat (p : Bool) : ∀ {xs : List D}, Flat xs → Ans p xs.length 0 xs
  | [], _ => .nil
  | x :: xs, h => by
    have t := Ans.flat p (xs := xs) fun y hy => h y (List.mem_cons_of_mem _ hy)
    have a : An p 1 0 x := by
      rcases h x List.mem_cons_self with rfl | ⟨i, rfl, hi⟩
      · exact .non p
      · exact .int p hi
    exact (Ans.cons a t).mono (by simp; omega) (by omega)
theorem flat_sub {xs ys : List D} (h : Flat xs) (s : ∀ x ∈ ys, x ∈ xs) : Flat ys := fun x hx => h x (s x hx)
theorem Ans.set {p : Bool} {c k : Nat} {xs : List D} {x : D} (h : Flat xs) (a : An p c k x) (i : Nat) : Ans p (c + xs.length) k (xs.set i x) := by
  by_cases hi : i < xs.length
  · rw [List.set_eq_take_append_cons_drop, if_pos hi]
    have h1 := Ans.flat p (flat_sub h fun y hy => List.mem_of_mem_take hy : Flat (xs.take i))
    have h2 := Ans.flat p (flat_sub h fun y hy => List.mem_of_mem_drop hy : Flat (xs.drop (i + 1)))
    refine (h1.append (.cons a h2)).mono ?_ (by omega)
    rw [List.length_take, List.length_drop]
    omega
  · rw [List.set_eq_of_length_le (by omega)]
    exact (Ans.flat p h).mono (by omega) (by omega)
theorem repr_An {p : Bool} {a b : D} {c1 c2 k1 k2 : Nat} (ha : An p c1 k1 a) (hb : An p c2 k2 b) (h1 : c1 ≤ 100000) (h2 : c2 ≤ 100000) (h3 : k1 ≤ 8) (h4 : k2 ≤ 8) : opB1 .repr (.tuple [a, b]) = some (.val (.str (PyData.tuple [a, b]).shown)) :=
  repr_of (c := 100000) ⟨ha.gd, Nat.le_trans ha.cn h1, Nat.le_trans ha.dp h3⟩ ⟨hb.gd, Nat.le_trans hb.cn h2, Nat.le_trans hb.dp h4⟩ (Nat.le_refl _) (by
    have x := ha.kd
    have y := hb.kd
    cases p
    · exact .inr ⟨x, y⟩
    · exact .inl ⟨x, y⟩)
/-- .. of one value -/
theorem repr_one {p : Bool} {a : D} {c k : Nat} (h : An p c k a) (hc : c ≤ 300000) (hk : k ≤ 64) : reprD a = some (.val (.str a.shown)) := by
  unfold reprD
  have e : okRepr a = true := by
    obtain ⟨s1, s2⟩ := shown_le _ h.gd
    have h1 := h.cn
    have h2 := h.dp
    have h3 := h.kd
    unfold okRepr
    simp only [Bool.and_eq_true, decide_eq_true_eq, Bool.or_eq_true]
    refine ⟨⟨⟨s2, ?_⟩, ?_⟩, ?_⟩
    · show _ ≤ 16777216
      omega
    · omega
    · cases p
      · exact .inr h3
      · exact .inl h3
  rw [e]
  rfl
theorem cnt_pos : ∀ d : D, 1 ≤ cnt d := by
  intro d
  cases d <;> simp [cnt]
theorem cnts_len : ∀ xs : List D, xs.length ≤ cnts xs
  | [] => Nat.le_refl _
  | x :: xs => by
    have := cnts_len xs
    have := cnt_pos x
    simp only [cnts, List.length_cons]
    omega
theorem okEq_An {c k : Nat} {d : D} (h : An true c k d) (hk : k ≤ 64) : okEq d = true := by
  unfold okEq
  have a : d.plain = true := h.kd
  simp [a]
  exact Nat.le_trans h.dp hk
/-! ### cuts -/
theorem cut_take {xs : List D} {v : Int} (h0 : 0 ≤ v) (h1 : v ≤ xs.length) : cutL xs none (some v) = xs.take v.toNat := by
  unfold cutL slIx
  dsimp only
  rw [if_neg (by omega), Nat.min_eq_left (by omega)]
  simp
theorem cut_drop {xs : List D} {v : Int} (h0 : 0 ≤ v) (h1 : v ≤ xs.length) : cutL xs (some v) none = xs.drop v.toNat := by
  unfold cutL slIx
  dsimp only
  rw [if_neg (by omega), Nat.min_eq_left (by omega)]
  exact List.take_of_length_le (by rw [List.length_drop]; omega)
theorem mem_cut {xs : List D} {lo hi : Option Int} {x : D} (h : x ∈ cutL xs lo hi) : x ∈ xs := by
  unfold cutL at h
  exact List.mem_of_mem_drop (List.mem_of_mem_take h)
theorem cut_len (xs : List D) (lo hi : Option Int) : (cutL xs lo hi).length ≤ xs.length := by
  unfold cutL
  rw [List.length_take, List.length_drop]
  omega
theorem put_cut {xs : List D} {v : Int} {x : D} (h0 : 0 ≤ v) (h1 : v < xs.length) : cutL xs none (some v) ++ x :: cutL xs (some (v + 1)) none = xs.set v.toNat x := by
  rw [cut_take h0 (by omega), cut_drop (by omega) (by omega), List.set_eq_take_append_cons_drop, if_pos (by omega)]
  congr 3
  omega
theorem ne_tnil {xs : List D} (h : okEq (.tuple xs) = true) : opCmp .ne (.tuple xs) (.tuple []) = some (!xs.isEmpty) := by
  show (opEq _ _).map not = _
  unfold opEq
  rw [if_neg (by simp [lensDiffer]), h, show okEq (.tuple []) = true from rfl]
  cases xs with
  | nil => rfl
  | cons x xs => simp [gd, PyData.eqv, PyData.eqvAll]
/-- a call that keeps nothing and lends nothing -/
theorem call_sh {cx : Cxt} {f : Nat} {ρ : Env} {ds : List D} {d : D} {src : List Arg} {Q : R → Env → Prop} (hsrc : src = (List.range ds.length).map .e) (hl : ds.length ≤ 4) (hr : Ret (cx.φ f (ds.map .sh)) (fun m fin => m = .sh d ∧ fin = ds.map .sh)) (h : Q (.val d) ρ) : Wp (callR cx f (ds.map .val) src ρ) Q := by
  subst hsrc
  match ds, hl with
  | [], _ =>
    refine wp_call (ms := []) ?_ ?_ (by simp [srcOk, List.range_succ]) hr ?_
    · simp [argsOf, R.arg, List.range_succ]
    · simp [ownsOf, List.range_succ]
    · rintro m fin ⟨rfl, rfl⟩
      exact ⟨rfl, by simpa [ownsOf, List.range_succ, backOf] using h⟩
  | [d1], _ =>
    refine wp_call (ms := [.sh d1]) ?_ ?_ (by simp [srcOk, List.range_succ]) hr ?_
    · simp [argsOf, R.arg, List.range_succ]
    · simp [ownsOf, List.range_succ]
    · rintro m fin ⟨rfl, rfl⟩
      exact ⟨rfl, by simpa [ownsOf, List.range_succ, backOf] using h⟩
  | [d1, d2], _ =>
    refine wp_call (ms := [.sh d1, .sh d2]) ?_ ?_ (by simp [srcOk, List.range_succ]) hr ?_
    · simp [argsOf, R.arg, List.range_succ]
    · simp [ownsOf, List.range_succ]
    · rintro m fin ⟨rfl, rfl⟩
      exact ⟨rfl, by simpa [ownsOf, List.range_succ, backOf] using h⟩
  | [d1, d2, d3], _ =>
    refine wp_call (ms := [.sh d1, .sh d2, .sh d3]) ?_ ?_ (by simp [srcOk, List.range_succ]) hr ?_
    · simp [argsOf, R.arg, List.range_succ]
    · simp [ownsOf, List.range_succ]
    · rintro m fin ⟨rfl, rfl⟩
      exact ⟨rfl, by simpa [ownsOf, List.range_succ, backOf] using h⟩
  | [d1, d2, d3, d4], _ =>
    refine wp_call (ms := [.sh d1, .sh d2, .sh d3, .sh d4]) ?_ ?_ (by simp [srcOk, List.range_succ]) hr ?_
    · simp [argsOf, R.arg, List.range_succ]
    · simp [ownsOf, List.range_succ]
    · rintro m fin ⟨rfl, rfl⟩
      exact ⟨rfl, by simpa [ownsOf, List.range_succ, backOf] using h⟩
/-- .. two arguments, by their names, the other way round -/
theorem call_sw {cx : Cxt} {f : Nat} {ρ : Env} {d1 d2 : D} {d : D} {Q : R → Env → Prop} (hr : Ret (cx.φ f [.sh d2, .sh d1]) (fun m fin => m = .sh d ∧ fin = [.sh d2, .sh d1])) (h : Q (.val d) ρ) : Wp (callR cx f [.val d1, .val d2] [.e 1, .e 0] ρ) Q := by
  refine wp_call (ms := [.sh d2, .sh d1]) ?_ ?_ (by simp [srcOk]) hr ?_
  · simp [argsOf, R.arg]
  · simp [ownsOf]
  · rintro m fin ⟨rfl, rfl⟩
    exact ⟨rfl, by simpa [ownsOf, backOf] using h⟩
end MI
namespace MI
open PySem
/-! ### more steps -/
section
variable (cx : Cxt) (ρ : Env) (Q : R → Env → Prop)
@[simp ↓] theorem s_join (s : String) (a : Ex) : Wp (evE cx (.join s a) ρ) Q = Wp (evE cx a ρ) fun ra ρ => wpO ((ra.cont ρ).bind (joinD (Str.ofString s))) fun r => Q r ρ := by
  simp only [evE, s_bind, s_lift]
@[simp ↓] theorem s_sset (a : Ex) : Wp (evE cx (.sset a) ρ) Q = Wp (evE cx a ρ) fun ra ρ => wpO ((ra.cont ρ).bind ssetD) fun r => Q r ρ := by
  simp only [evE, s_bind, s_lift]
@[simp ↓] theorem s_lzip (a b : Ex) : Wp (evE cx (.lzip a b) ρ) Q = Wp (evE cx a ρ) fun r ρ => Wp (MI.frz r ρ) fun d ρ => Wp (evE cx b ρ) fun r ρ => Wp (MI.frz r ρ) fun e ρ => wpO (lzipD d e) fun r => Q r ρ := by
  simp only [evE, s_bind, s_lift]
@[simp ↓] theorem s_inr (neg : Bool) (a : Ex) (es : List Ex) : Wp (evE cx (.inr neg a es) ρ) Q = Wp (evE cx a ρ) fun ra ρ => Wp (evDs cx es ρ) fun ds ρ => wpO ((ra.cont ρ).bind fun x => inrD neg x ds) fun r => Q r ρ := by
  simp only [evE, s_bind, s_lift]
@[simp ↓] theorem s_lit (it : It) (t : Bool) : Wp (evE cx (.lit it t) ρ) Q = Wp (evI cx it ρ) fun items ρ => items.length ≤ Lim ∧ Q (if t then .val (.tuple items) else .new items) ρ := by
  simp only [evE, s_bind]
  congr 1
  funext items ρ
  by_cases h : items.length ≤ Lim
  · simp [h]
  · simp [h]; exact fun h => h
variable (Q : Bool → Env → Prop)
@[simp ↓] theorem t_inr (neg : Bool) (a : Ex) (es : List Ex) : Wp (evT cx (.inr neg a es) ρ) Q = Wp (evE cx (.inr neg a es) ρ) fun r ρ => wpO ((r.cont ρ).bind truth) fun b => Q b ρ := t_val cx ρ Q (by simp only [evT])
variable (Q : Fl → Env → Prop)
@[simp ↓] theorem q_par (i j : Nat) (a b : Ex) : Wp (evS cx (.par i j a b) ρ) Q = Wp (evE cx a ρ) fun ra ρ => Wp (R.still ra ρ) fun ra ρ => Wp (evE cx b ρ) fun rb ρ => Wp (R.still rb ρ) fun rb ρ => i ≠ j ∧ Wp (setR i ra ρ) fun _ ρ => Wp (setR j rb ρ) fun _ ρ => Q .next ρ := by
  simp only [evS, s_bind]
  congr 1; funext ra ρ
  congr 1; funext ra ρ
  congr 1; funext rb ρ
  congr 1; funext rb ρ
  by_cases h : i = j
  · simp [h]; exact fun h => h
  · simp [h]
end
section
variable (ρ : Env) (Q : R → Env → Prop)
@[simp ↓] theorem still_val (d : D) : Wp (R.still (.val d) ρ) Q = Q (.val d) ρ := rfl
@[simp ↓] theorem still_new (d : List D) : Wp (R.still (.new d) ρ) Q = Q (.new d) ρ := rfl
@[simp ↓] theorem still_own' (i : Nat) : Wp (R.still (.own i) ρ) Q = Wp (MI.frz (.own i) ρ) fun d ρ => Q (.val d) ρ := by
  show Wp ((MI.frz (.own i) ρ).bind _) Q = _
  simp only [s_bind, s_ok]
variable (Q : Unit → Env → Prop)
@[simp ↓] theorem set_val (i : Nat) (d : D) : Wp (setR i (.val d) ρ) Q = (free ρ i = true ∧ Q () (ρ.set i (some (.sh d)))) := by
  unfold setR
  by_cases h : free ρ i = true
  · simp [h]
  · simp [h]; exact fun h => h
@[simp ↓] theorem set_new (i : Nat) (d : List D) : Wp (setR i (.new d) ρ) Q = (free ρ i = true ∧ Q () (ρ.set i (some (.ol false d)))) := by
  unfold setR
  by_cases h : free ρ i = true
  · simp [h]
  · simp [h]; exact fun h => h
end
@[simp] theorem isT_i (a b : Bool) : opCmp .isN (.bool a) (.bool b) = some (a == b) := rfl
@[simp] theorem notT_i (a b : Bool) : opCmp .notN (.bool a) (.bool b) = some (!(a == b)) := rfl
@[simp] theorem inr_1 (neg : Bool) (i n : Int) : inrD neg (.int i) [.int n] = some (.val (.bool (neg != (decide (0 ≤ i ∧ i < n))))) := rfl
@[simp] theorem inr_2 (neg : Bool) (i a b : Int) : inrD neg (.int i) [.int a, .int b] = some (.val (.bool (neg != (decide (a ≤ i ∧ i < b))))) := rfl
@[simp] theorem rng_2 (i j : Int) : rngOf [.int i, .int j] = gd (small62 i && small62 j) (rngD i (j - i).toNat 1) := rfl
@[simp] theorem lzip_t (xs ys : List D) : lzipD (.tuple xs) (.tuple ys) = some (.new (zipD xs ys)) := rfl
@[simp] theorem lim_val : (Lim : Nat) = 16777216 := rfl
theorem eq_ss (a b : Str) : opCmp .eq (.str a) (.str b) = some (a == b) := by
  show opEq _ _ = _
  unfold opEq
  rw [if_neg (by simp [lensDiffer])]
  show gd true (PyData.eqv (.str a) (.str b)) = _
  simp [gd, PyData.eqv]
theorem ne_ss' (a b : Str) : opCmp .ne (.str a) (.str b) = some (a != b) := by
  show (opCmp .eq (.str a) (.str b)).map not = _
  rw [eq_ss]
  rfl
theorem popAt_ok {xs : List D} {i : Int} (h0 : 0 ≤ i) (h1 : i < xs.length) (hl : xs.length ≤ 1000000) : ∃ y, opMu .popAt xs [.int i] = some (y, xs.eraseIdx i.toNat) ∧ y ∈ xs := by
  have hi : i.toNat < xs.length := by omega
  refine ⟨xs[i.toNat], ?_, List.getElem_mem hi⟩
  show ((gd (decide (i.natAbs < 2 ^ 62)) ()).bind fun _ => (ixOf xs.length i).bind fun k => (xs[k]?).map fun y => (y, xs.eraseIdx k)) = _
  have e : ixOf xs.length i = some i.toNat := by
    unfold ixOf
    rw [if_pos h0, if_pos h1]
  rw [e]
  have g : i.natAbs < 2 ^ 62 := Nat.lt_of_lt_of_le (show i.natAbs < 1000001 by omega) (by decide)
  rw [show decide (i.natAbs < 2 ^ 62) = true from decide_eq_true g]
  simp [gd, hi]
theorem ix_ok {n : Nat} {i : Int} (h0 : 0 ≤ i) (h1 : i < n) : ixOf n i = some i.toNat := by
  unfold ixOf
  rw [if_pos h0, if_pos h1]
theorem penq {cells : List Int} {at_ n at2 g2 : Int} {P : M → Prop} {rest : List M} {m : M} (a1 : at_ ≤ at2) (a2 : at2 ≤ at_ + n) (a3 : 0 ≤ g2) (p : P m) : PenQ cells at_ n P rest m (.ol true (pen cells at2 g2) :: rest) := ⟨at2, g2, rfl, a1, a2, a3, p⟩
theorem at4 {a b c d : D} {v : Int} (h0 : 0 ≤ v) (h1 : v < 4) : atD [a, b, c, d] v = some a ∨ atD [a, b, c, d] v = some b ∨ atD [a, b, c, d] v = some c ∨ atD [a, b, c, d] v = some d := by
  have : v = 0 ∨ v = 1 ∨ v = 2 ∨ v = 3 := by omega
  rcases this with rfl | rfl | rfl | rfl <;> simp
theorem at3' {a b c : D} {v : Int} (h0 : 0 ≤ v) (h1 : v < 3) : atD [a, b, c] v = some a ∨ atD [a, b, c] v = some b ∨ atD [a, b, c] v = some c := by
  have : v = 0 ∨ v = 1 ∨ v = 2 := by omega
  rcases this with rfl | rfl | rfl <;> simp
theorem at6 {P : D → Prop} {xs : List D} {v : Int} (h0 : 0 ≤ v) (h1 : v < xs.length) (h : ∀ x ∈ xs, P x) : ∃ d, atD xs v = some d ∧ P d := by
  have hl : v.toNat < xs.length := by omega
  exact ⟨xs[v.toNat], at_lt h0 h1 (by simp [hl]), h _ (List.getElem_mem hl)⟩
theorem small_of {i : Int} (h0 : 0 ≤ i) (h1 : i < 1000000) : small62 i = true := by
  have h : i.natAbs < 2 ^ 62 := Nat.lt_of_lt_of_le (show i.natAbs < 1000001 by omega) (by decide)
  exact decide_eq_true h
theorem at_mem {xs : List D} {v : Int} (h0 : 0 ≤ v) (h1 : v < xs.length) : ∃ d, atD xs v = some d ∧ d ∈ xs := at6 h0 h1 fun _ h => h
theorem wpI_two {b1 b2 : Bool} {P R : Prop} (hP : b1 = true → b2 = true → P) (hR : R) : wpI b1 (wpI b2 P R) R := by
  cases b1 <;> cases b2 <;> simp_all [wpI]
def AnyP (c k : Nat) (d : D) : Prop := ∃ p, An p c k d
theorem wpO_at {xs : List D} {v : Int} {Q : D → Prop} (h0 : 0 ≤ v) (h1 : v < xs.length) (h : ∀ x ∈ xs, Q x) : wpO (atD xs v) Q := by
  obtain ⟨d, e, hd⟩ := at_mem h0 h1
  rw [e]
  exact h d hd
theorem Ans_all {p : Bool} {c k : Nat} : ∀ {xs : List D}, (∀ x ∈ xs, An p c k x) → Ans p (c * xs.length) k xs
  | [], _ => Ans.nil.mono (by simp) (by omega)
  | x :: xs, h => (Ans.cons (h x List.mem_cons_self) (Ans_all fun y hy => h y (List.mem_cons_of_mem _ hy))).mono (by simp [Nat.mul_add]; omega) (by omega)
theorem An_tup {p : Bool} {c k n : Nat} {xs : List D} (h : ∀ x ∈ xs, An p c k x) (hn : xs.length ≤ n) : An p (1 + c * n) (k + 1) (.tuple xs) :=
  (An.tup (Ans_all h)).mono (Nat.add_le_add_left (Nat.mul_le_mul_left c hn) 1) (Nat.le_refl _)
theorem An_lst {c k n : Nat} {xs : List D} (h : ∀ x ∈ xs, An true c k x) (hn : xs.length ≤ n) : An true (1 + c * n) (k + 1) (.list xs) :=
  (An.lst (Ans_all h)).mono (Nat.add_le_add_left (Nat.mul_le_mul_left c hn) 1) (Nat.le_refl _)
theorem An_two {p : Bool} {c1 c2 k1 k2 : Nat} {x y : D} (h1 : An p c1 k1 x) (h2 : An p c2 k2 y) : An p (2 + c1 + c2) (max k1 k2 + 1) (.tuple [x, y]) := (An.tup (.cons h1 (.cons h2 .nil))).mono (by omega) (by omega)
theorem An_three {p : Bool} {c1 c2 c3 k1 k2 k3 : Nat} {x y z : D} (h1 : An p c1 k1 x) (h2 : An p c2 k2 y) (h3 : An p c3 k3 z) : An p (2 + c1 + c2 + c3) (max k1 (max k2 k3) + 1) (.tuple [x, y, z]) := (An.tup (.cons h1 (.cons h2 (.cons h3 .nil)))).mono (by omega) (by omega)
theorem flat_An {p : Bool} {xs : List D} (h : Flat xs) : ∀ x ∈ xs, An p 1 0 x := fun x hx => by
  rcases h x hx with rfl | ⟨i, rfl, hi⟩
  · exact .non p
  · exact .int p hi
theorem eq_tnil {xs : List D} (h : okEq (.tuple xs) = true) : opCmp .eq (.tuple xs) (.tuple []) = some xs.isEmpty := by
  show opEq _ _ = _
  unfold opEq
  rw [if_neg (by simp [lensDiffer]), h, show okEq (.tuple []) = true from rfl]
  cases xs with
  | nil => rfl
  | cons x xs => simp [gd, PyData.eqv, PyData.eqvAll]
theorem wpI_or {b1 b2 : Bool} {P R : Prop} (hP : P) (hR : b1 = false → b2 = false → R) : wpI b1 P (wpI b2 P R) := by
  cases b1 <;> cases b2 <;> simp_all [wpI]
theorem set_all {P : D → Prop} {xs : List D} {i : Nat} {y : D} (h : ∀ x ∈ xs, P x) (hy : P y) : ∀ x ∈ xs.set i y, P x := fun x hx => by
  rcases List.mem_or_eq_of_mem_set hx with h1 | rfl
  · exact h x h1
  · exact hy
theorem cut_all {P : D → Prop} {xs : List D} {lo hi : Option Int} (h : ∀ x ∈ xs, P x) : ∀ x ∈ cutL xs lo hi, P x := fun x hx => h x (mem_cut hx)
theorem app_all {P : D → Prop} {xs ys : List D} (h : ∀ x ∈ xs, P x) (h2 : ∀ x ∈ ys, P x) : ∀ x ∈ xs ++ ys, P x := fun x hx => by
  rcases List.mem_append.mp hx with h1 | h1
  · exact h x h1
  · exact h2 x h1
theorem all_mono {p : Bool} {c k c' k' : Nat} {xs : List D} (h : ∀ x ∈ xs, An p c k x) (h1 : c ≤ c') (h2 : k ≤ k') : ∀ x ∈ xs, An p c' k' x := fun x hx => (h x hx).mono h1 h2
@[simp] theorem sl_63 (ns : List Int) : cutL (ns.map PyData.int) none (some 63) = (ns.take 63).map PyData.int := by
  unfold cutL slIx
  dsimp only
  rw [if_neg (by decide), List.drop_zero, List.length_map, Nat.sub_zero, List.map_take]
  by_cases h : ns.length ≤ 63
  · rw [List.take_of_length_le (by simp; omega), List.take_of_length_le (by simpa using h)]
  · rw [Nat.min_eq_left (show (63 : Int).toNat ≤ ns.length by simp; omega)]
    rfl
@[simp] theorem ne_b (a b : Bool) : opCmp .ne (.bool a) (.bool b) = some (a != b) := by cases a <;> cases b <;> rfl
@[simp] theorem ne_ss (a : Str) : opCmp .ne (.str a) (.str a) = some false := by
  show (opEq (.str a) (.str a)).map not = _
  have e : opEq (.str a) (.str a) = some true := by
    unfold opEq
    rw [if_neg (by simp [lensDiffer])]
    show gd true (PyData.eqv (.str a) (.str a)) = _
    simp [gd, PyData.eqv]
  rw [e]
  rfl
def Lo (x : Option M) : Prop := x = none ∨ ∃ d, x = some (.sh d)
theorem Lo.free {x : Option M} (h : Lo x) (ρ : MI.Env) : MI.free (x :: ρ) 0 = true := by
  rcases h with rfl | ⟨d, rfl⟩ <;> simp
theorem Lo.sh (d : D) : Lo (some (.sh d)) := .inr ⟨d, rfl⟩
theorem filter_some (p : D → Bool) : ∀ xs : List D, xs.filterMap (fun x => if p x then none else some x) = xs.filter fun x => !p x
  | [] => rfl
  | x :: xs => by
    rw [List.filterMap_cons, List.filter_cons, filter_some p xs]
    cases p x <;> rfl
theorem filter_all (p : D → Bool) (xs : List D) : (xs.filter fun x => !p x).isEmpty = xs.all p := by
  induction xs with
  | nil => rfl
  | cons x xs ih =>
    rw [List.filter_cons, List.all_cons]
    cases h : p x
    · rfl
    · simpa using ih
theorem bools_map (p : D → Bool) : ∀ xs : List D, boolsOf (xs.map fun x => .bool (p x)) = some (xs.map p)
  | [] => rfl
  | x :: xs => by simp [boolsOf, bools_map p xs]
theorem all_map (p : D → Bool) (xs : List D) : opB1 .all (.list (xs.map fun x => .bool (p x))) = some (.val (.bool (xs.all p))) := by
  show (boolsOf _).map _ = _
  rw [bools_map]
  simp
theorem insI_sub {x y : Int} : ∀ {l : List Int}, y ∈ insI x l → y = x ∨ y ∈ l
  | [], h => by simpa [insI] using h
  | z :: l, h => by
    simp only [insI] at h
    split at h
    · simpa using h
    · split at h
      · exact .inr h
      · rcases List.mem_cons.mp h with q | q
        · exact .inr (by simp [q])
        · rcases insI_sub q with q | q
          · exact .inl q
          · exact .inr (by simp [q])
theorem ssetI_sub {y : Int} : ∀ {l : List Int}, y ∈ ssetI l → y ∈ l
  | [], h => by simpa [ssetI] using h
  | x :: l, h => by
    rcases insI_sub (show y ∈ insI x (ssetI l) from h) with q | q
    · simp [q]
    · exact List.mem_cons_of_mem _ (ssetI_sub q)
theorem insI_len (x : Int) : ∀ l : List Int, (insI x l).length ≤ l.length + 1
  | [] => by simp [insI]
  | z :: l => by
    simp only [insI]
    split
    · simp
    · split
      · simp
      · have := insI_len x l
        simp only [List.length_cons]
        omega
theorem ssetI_len : ∀ l : List Int, (ssetI l).length ≤ l.length
  | [] => by simp [ssetI]
  | x :: l => by
    have h1 := ssetI_len l
    have h2 := insI_len x (ssetI l)
    show (insI x (ssetI l)).length ≤ _
    simp only [List.length_cons]
    omega
/-- sorted(set(pairs)) -/
theorem sset_ok {xs : List D} (h : ∀ x ∈ xs, ∃ a b : Int, x = .tuple [.int a, .int b] ∧ 0 ≤ a ∧ a < 64 ∧ 0 ≤ b ∧ b < 64) (hl : xs.length < 64) : ∃ ys, ssetD (.list xs) = some (.new ys) ∧ (∀ y ∈ ys, y ∈ xs) ∧ ys.length ≤ xs.length := by
  have key : ∀ xs : List D, (∀ x ∈ xs, ∃ a b : Int, x = .tuple [.int a, .int b] ∧ 0 ≤ a ∧ a < 64 ∧ 0 ≤ b ∧ b < 64) → ∃ ps, pairsOf xs = some ps ∧ ps.length = xs.length ∧ ps.all okPair = true ∧ ∀ c ∈ ps.map codeP, pairD c ∈ xs := by
    intro xs
    induction xs with
    | nil => intro _; exact ⟨[], rfl, rfl, rfl, by simp⟩
    | cons x xs ih =>
      intro h
      obtain ⟨a, b, rfl, h1, h2, h3, h4⟩ := h x List.mem_cons_self
      obtain ⟨ps, e1, e2, e3, e4⟩ := ih fun y hy => h y (List.mem_cons_of_mem _ hy)
      refine ⟨(a, b) :: ps, by simp [pairsOf, e1], by simp [e2], by simp [e3, okPair, h1, h2, h3, h4], fun c hc => ?_⟩
      rw [List.map_cons] at hc
      rcases List.mem_cons.mp hc with rfl | hc
      · have : pairD (codeP (a, b)) = .tuple [.int a, .int b] := by
          unfold pairD codeP
          simp only
          rw [show (a * 64 + b) / 64 = a by omega, show (a * 64 + b) % 64 = b by omega]
        rw [this]
        exact List.mem_cons_self
      · exact List.mem_cons_of_mem _ (e4 c hc)
  obtain ⟨ps, e1, e2, e3, e4⟩ := key xs h
  refine ⟨(ssetI (ps.map codeP)).map pairD, ?_, fun y hy => ?_, ?_⟩
  · have : ps.length < 64 := by omega
    simp only [ssetD, ssetL, e1]
    show gd (decide (ps.length < 64) && ps.all okPair) _ = _
    rw [e3, decide_eq_true this]
    rfl
  · obtain ⟨c, hc, rfl⟩ := List.mem_map.mp hy
    exact e4 c (ssetI_sub hc)
  · have := ssetI_len (ps.map codeP)
    simp only [List.length_map] at this ⊢
    omega
end MI
namespace MI
open PySem
/-! ### what the laws k01 .. k12, k80 .. k88 draw with -/
def A_price (i_draw : Nat) : Fd := ⟨1, 2, [.asg 1 (.bin .add (.int 1) (.call i_draw [.var 0, .bin .pow (.int 10) (.int 9)] [true, true] [.e 0, .e 1])), .ret (.idx (.lst [.int 1, .bin .add (.int 1) (.call i_draw [.var 0, .int 12] [true, true] [.e 0, .e 1]), .bin .pow (.int 10) (.int 9), .var 1]) (.call i_draw [.var 0, .int 4] [true, true] [.e 0, .e 1]))]⟩
def A_ends (i_draw : Nat) : Fd := ⟨4, 6, [.asg 4 (.call i_draw [.var 0, .var 2] [true, true] [.e 0, .e 1]), .asg 5 (.lst [.tup [.bin .mod (.var 3) (.bin .sub (.var 2) (.int 1)), .bin .add (.bin .mod (.var 3) (.bin .sub (.var 2) (.int 1))) (.int 1)], .tup [.bin .mod (.var 3) (.var 2), .bin .mod (.bin .add (.var 3) (.int 1)) (.var 2)], .tup [.int 0, .bin .add (.int 1) (.bin .mod (.var 3) (.bin .sub (.var 2) (.int 1)))]]), .asg 5 (.bin .add (.var 5) (.lst [.tup [.var 4, .idx (.lst [.bin .mod (.bin .add (.var 4) (.int 1)) (.var 2), .bin .add (.var 4) (.int 2)]) (.bi1 .int (.cmp .lt (.bin .add (.var 4) (.int 2)) (.var 2)))], .tup [.int 0, .int 1]])), .expr (.mu .append 5 [.tup [.var 4, .bin .mod (.bin .add (.bin .add (.var 4) (.int 1)) (.call i_draw [.var 0, .bin .sub (.var 2) (.int 1)] [true, true] [.e 0, .e 1])) (.var 2)]]), .ret (.tup [.bi1 .min (.idx (.var 5) (.var 1)), .bi1 .max (.idx (.var 5) (.var 1))])]⟩
def A_bars (i_draw : Nat) : Fd := ⟨2, 6, [.asg 2 (.idx (.lst [.int 0, .int 1, .int 4]) (.call i_draw [.var 0, .int 3] [true, true] [.e 0, .e 1])), .asg 3 (.lst []), .for (.name 4) (.rng [.int 5]) [.asg 3 (.bin .add (.var 3) (.comp (.tup [.var 4, .var 5]) (.name 5) (.rng [.var 1]) (some (.cmp .lt (.call i_draw [.var 0, .int 9] [true, true] [.e 0, .e 1]) (.var 2)))))], .ret (.bi1 .tuple (.var 3))]⟩
def A_web (i_bars : Nat) (i_draw : Nat) (i_ends : Nat) (i_price : Nat) : Fd := ⟨3, 8, [.asg 3 (.call i_draw [.var 0, .int 6] [true, true] [.e 0, .e 1]), .asg 4 (.idx (.lst [.var 1, .bin .add (.int 1) (.call i_draw [.var 0, .var 1] [true, true] [.e 0, .e 1]), .int 2]) (.call i_draw [.var 0, .int 3] [true, true] [.e 0, .e 1])), .asg 5 (.idx (.lst [.call i_draw [.var 0, .bin .add (.var 2) (.int 1)] [true, true] [.e 0, .e 1], .var 2, .bi2 .min (.var 4) (.var 2)]) (.call i_draw [.var 0, .int 3] [true, true] [.e 0, .e 1])), .asg 6 (.lst []), .for (.name 7) (.rng [.bin .mul (.var 5) (.bi1 .int (.cmp .gt (.var 4) (.int 1)))]) [.expr (.mu .append 6 [.bin .add (.call i_ends [.var 0, .var 3, .var 4, .var 7] [true, true, true, true] [.e 0, .e 1, .e 2, .e 3]) (.tup [.call i_price [.var 0] [true] [.e 0]])])], .ret (.tup [.var 4, .bi1 .tuple (.var 6), .call i_bars [.var 0, .bi1 .len (.var 6)] [true, false] [.e 0, .e 1]])]⟩
def A_standing (i_draw : Nat) : Fd := ⟨2, 10, [.asg 2 (.idx (.lst [.bin .add (.int 1) (.call i_draw [.var 0, .int 5] [true, true] [.e 0, .e 1]), .int 2, .int 5]) (.call i_draw [.var 0, .int 3] [true, true] [.e 0, .e 1])), .asg 3 (.bi1 .tuple (.comp (.call i_draw [.var 0, .idx (.var 1) (.int 0)] [true, true] [.e 0, .e 1]) (.name 9) (.rng [.var 2]) none)), .asg 4 (.call i_draw [.var 0, .int 5] [true, true] [.e 0, .e 1]), .asg 5 (.call i_draw [.var 0, .var 2] [true, true] [.e 0, .e 1]), .asg 6 (.lst []), .for (.name 7) (.seq (.idx (.var 1) (.int 1))) [.asg 8 (.lst [.non, .var 5, .call i_draw [.var 0, .var 2] [true, true] [.e 0, .e 1]]), .expr (.mu .append 6 [.idx (.var 8) (.idx (.lst [.int 0, .int 1, .int 2, .int 2, .call i_draw [.var 0, .int 3] [true, true] [.e 0, .e 1]]) (.var 4))])], .ret (.tup [.var 3, .bi1 .tuple (.var 6)])]⟩
variable {prog : List Fd} {fuel : Nat}
theorem w_drawA {k j f : Nat} {ρ : Env} {p : Bool} {cells : List Int} {at_ g many : Int} {Q : R → Env → Prop} (hf : prog[f]? = some f_law_draw) (hj : ρ.get j = some (.ol p (pen cells at_ g))) (h1 : 0 < many) (h2 : many < 1000000000000000000000000000000000000000000000000000000000000) (h3 : 0 ≤ at_) (h4 : at_ < 1000000) (h5 : 0 ≤ g)
    (h : ∀ v at2 g2, 0 ≤ v → v < many → at_ ≤ at2 → at2 ≤ at_ + 1 → 0 ≤ g2 → Q (.val (.int v)) (ρ.set j (some (.ol p (pen cells at2 g2))))) : Wp (callR ⟨run prog fuel (k + 1), fuel⟩ f [.own j, .val (.int many)] [.e 0, .e 1] ρ) Q :=
  call_pen (ds := [.int many]) (n := 1) (P := fun m => ∃ v, m = .sh (.int v) ∧ 0 ≤ v ∧ v < many) hj rfl (by simp) ((draw_spec hf cells h1 h2 h3 h4 h5).mono fun m fin ⟨v, a, g, e, v0, v1, a1, a2, g0, ef⟩ => ⟨a, g, ef, a1, a2, g0, v, e, v0, v1⟩) fun m at2 g2 ⟨v, e, v0, v1⟩ a1 a2 a3 => by subst e; exact h v at2 g2 v0 v1 a1 a2 a3
def A_pen : Fd := ⟨1, 1, [.ret (.lst [.bi1 .list (.sl (.var 0) none (some (.int 63))), .int 0, .int 0])]⟩
theorem w_penA {k i : Nat} {ns : List Int} {ρ : Env} {Q : R → Env → Prop} (hi : prog[i]? = some A_pen) (h : Q (.new (pen (ns.take 63) 0 0)) ρ) : Wp (callR ⟨run prog fuel (k + 1), fuel⟩ i [.sc ns] [.e 0] ρ) Q := by
  have spec : Ret (run prog fuel (k + 1) i [.sc ns]) (fun m fin => m = .ol false (pen (ns.take 63) 0 0) ∧ fin = [.sc ns]) := by
    refine ret_run (fd := A_pen) hi rfl (by decide) rfl ?_
    simp [A_pen]
  refine wp_call (ms := [.sc ns]) rfl (by simp [ownsOf]) (by simp [srcOk]) spec ?_
  rintro m fin ⟨rfl, rfl⟩
  exact ⟨rfl, by simpa [ownsOf, backOf] using h⟩
theorem price_specA {k f i : Nat} (hf : prog[f]? = some (A_price i)) (hd : prog[i]? = some f_law_draw) (cells : List Int) {at_ g : Int} (h3 : 0 ≤ at_) (h4 : at_ + 3 < 1000000) (h5 : 0 ≤ g) :
    Ret (run prog fuel (k + 2) f (.ol true (pen cells at_ g) :: ([] : List D).map .sh)) (PenQ cells at_ 3 (fun m => ∃ v, m = .sh (.int v) ∧ 1 ≤ v ∧ v ≤ 1000000000) (([] : List D).map .sh)) := by
  refine ret_run (fd := A_price i) hf rfl (Nat.le_of_ble_eq_true rfl) rfl ?_
  simp [A_price]
  refine w_drawA hd rfl (by decide) (by decide) h3 (by omega) h5 fun v1 a1 g1 u1 u2 u3 u4 u5 => ?_
  simp
  refine w_drawA hd rfl (by decide) (by decide) (by omega) (by omega) u5 fun v2 a2 g2 w1 w2 w3 w4 w5 => ?_
  simp
  refine w_drawA hd rfl (by decide) (by decide) (by omega) (by omega) w5 fun v3 a3 g3 x1 x2 x3 x4 x5 => ?_
  simp
  rcases at4 (a := .int 1) (b := .int (1 + v2)) (c := .int 1000000000) (d := .int (1 + v1)) x1 x2 with e | e | e | e <;> simp [e] <;> exact penq (by omega) (by omega) x5 ⟨_, rfl, by omega, by omega⟩
/-- a pair of rooms -/
def PairA (n : Int) (d : D) : Prop := ∃ a b, d = .tuple [.int a, .int b] ∧ 0 ≤ a ∧ a < n ∧ 0 ≤ b ∧ b < n
theorem ord_two (a b : Int) : okOrd [.int a, .int b] = true := by
  unfold okOrd
  simp [allAlike, isNone, W.alike, PyData.plainAll, PyData.plain, PyData.depthAll, PyData.depth]
theorem min_pair (a b : Int) : opB1 .min (.tuple [.int a, .int b]) = some (.val (.int (min a b))) := by
  show minD _ = _
  show gd (okOrd [.int a, .int b]) (R.val (W.minD (.int a) [.int b])) = _
  rw [ord_two, show W.minD (.int a) [PyData.int b] = .int (min a b) from W.minD_ints a [b]]
  rfl
theorem max_pair (a b : Int) : opB1 .max (.tuple [.int a, .int b]) = some (.val (.int (max a b))) := by
  show maxD _ = _
  show gd (okOrd [.int a, .int b]) (R.val (W.maxD (.int a) [.int b])) = _
  rw [ord_two, show W.maxD (.int a) [PyData.int b] = .int (max a b) from W.maxD_ints a [b]]
  rfl
theorem ends_specA {k f i : Nat} (hf : prog[f]? = some (A_ends i)) (hd : prog[i]? = some f_law_draw) (cells : List Int) {at_ g kind spots w : Int} (h3 : 0 ≤ at_) (h4 : at_ + 2 < 1000000) (h5 : 0 ≤ g) (k0 : 0 ≤ kind) (k1 : kind < 6) (s0 : 2 ≤ spots) (s1 : spots ≤ 12) (w0 : 0 ≤ w) :
    Ret (run prog fuel (k + 2) f (.ol true (pen cells at_ g) :: ([.int kind, .int spots, .int w] : List D).map .sh)) (PenQ cells at_ 2 (fun m => ∃ d, m = .sh d ∧ PairA spots d) (([.int kind, .int spots, .int w] : List D).map .sh)) := by
  refine ret_run (fd := A_ends i) hf rfl (Nat.le_of_ble_eq_true rfl) rfl ?_
  simp [A_ends]
  refine w_drawA hd rfl (by omega) (by omega) h3 (by omega) h5 fun v1 a1 g1 u1 u2 u3 u4 u5 => ?_
  simp
  have md : ∀ x : Int, 0 ≤ x % spots ∧ x % spots < spots := fun x => ⟨Int.emod_nonneg _ (by omega), Int.emod_lt_of_pos _ (by omega)⟩
  have md1 : ∀ x : Int, 0 ≤ x % (spots - 1) ∧ x % (spots - 1) < spots - 1 := fun x => ⟨Int.emod_nonneg _ (by omega), Int.emod_lt_of_pos _ (by omega)⟩
  refine ⟨by omega, by omega, by omega, by omega, ?_⟩
  have pick : ∃ c, atD [PyData.int ((v1 + 1) % spots), PyData.int (v1 + 2)] (if v1 + 2 < spots then 1 else 0) = some (.int c) ∧ 0 ≤ c ∧ c < spots := by
    split
    · exact ⟨v1 + 2, by simp, by omega, by omega⟩
    · exact ⟨(v1 + 1) % spots, by simp, (md _).1, (md _).2⟩
  obtain ⟨c, e, c0, c1⟩ := pick
  simp [e]
  refine w_drawA hd rfl (by omega) (by omega) (by omega) (by omega) u5 fun v2 a2 g2 x1 x2 x3 x4 x5 => ?_
  simp
  refine ⟨by omega, ?_⟩
  obtain ⟨d, ed, x, y, rfl, p1, p2, p3, p4⟩ := at6 (P := PairA spots) (xs := [.tuple [.int (w % (spots - 1)), .int (w % (spots - 1) + 1)], .tuple [.int (w % spots), .int ((w + 1) % spots)], .tuple [.int 0, .int (1 + w % (spots - 1))], .tuple [.int v1, .int c], .tuple [.int 0, .int 1], .tuple [.int v1, .int ((v1 + 1 + v2) % spots)]]) k0 (by simpa using k1) (by
    intro x hx
    have q1 := md1 w
    have q2 := md w
    have q3 := md (w + 1)
    have q4 := md (v1 + 1 + v2)
    simp at hx
    rcases hx with rfl | rfl | rfl | rfl | rfl | rfl
    · exact ⟨_, _, rfl, by omega, by omega, by omega, by omega⟩
    · exact ⟨_, _, rfl, by omega, by omega, by omega, by omega⟩
    · exact ⟨_, _, rfl, by omega, by omega, by omega, by omega⟩
    · exact ⟨_, _, rfl, by omega, by omega, by omega, by omega⟩
    · exact ⟨_, _, rfl, by omega, by omega, by omega, by omega⟩
    · exact ⟨_, _, rfl, by omega, by omega, by omega, by omega⟩)
  simp [ed, min_pair, max_pair]
  exact penq (by omega) (by omega) x5 ⟨_, rfl, _, _, rfl, by omega, by omega, by omega, by omega⟩
/-- bars: pairs of a walker and a gate -/
def BarsA (many : Int) (ds : List D) : Prop := ∀ d ∈ ds, ∃ a b, d = .tuple [.int a, .int b] ∧ 0 ≤ a ∧ a < 5 ∧ 0 ≤ b ∧ b < many
theorem bars_specA {k f i : Nat} (hf : prog[f]? = some (A_bars i)) (hd : prog[i]? = some f_law_draw) (cells : List Int) {at_ g many : Int} (h3 : 0 ≤ at_) (h4 : at_ + 1 + 5 * many < 1000000) (h5 : 0 ≤ g) (m0 : 0 ≤ many) (m1 : many ≤ 24) :
    Ret (run prog fuel (k + 2) f (.ol true (pen cells at_ g) :: ([.int many] : List D).map .sh)) (PenQ cells at_ (1 + 5 * many) (fun m => ∃ ds, m = .sh (.tuple ds) ∧ BarsA many ds ∧ ds.length ≤ 120) (([.int many] : List D).map .sh)) := by
  refine ret_run (fd := A_bars i) hf rfl (Nat.le_of_ble_eq_true rfl) rfl ?_
  simp [A_bars]
  refine w_drawA hd rfl (by omega) (by omega) h3 (by omega) h5 fun v1 a1 g1 u1 u2 u3 u4 u5 => ?_
  simp
  have hs : ∃ s : Int, atD [PyData.int 0, PyData.int 1, PyData.int 4] v1 = some (.int s) := by
    rcases at3' (a := .int 0) (b := .int 1) (c := .int 4) u1 u2 with e | e | e <;> exact ⟨_, e⟩
  obtain ⟨s, e⟩ := hs
  simp [e]
  refine ⟨by decide, ?_⟩
  refine wp_forL (fun i ρ => ∃ a2 g2 ds x4, ρ = [some (.ol true (pen cells a2 g2)), some (.sh (.int many)), some (.sh (.int s)), some (.ol false ds), x4, none] ∧ a1 ≤ a2 ∧ a2 ≤ a1 + i * many ∧ 0 ≤ g2 ∧ BarsA many ds ∧ ds.length ≤ 24 * i ∧ (x4 = none ∨ ∃ d, x4 = some (.sh d)))
    ⟨a1, g1, [], none, rfl, by omega, by omega, u5, by simp [BarsA], by simp, .inl rfl⟩ ?_ ?_
  · rintro i d ρ hd' ⟨a2, g2, ds, x4, rfl, b1, b2, b3, b4, b5, b6⟩
    obtain ⟨hi, rfl⟩ := rngD_get hd'
    have hi5 : i < 5 := hi
    have x4f : free [some (.ol true (pen cells a2 g2)), some (.sh (.int many)), some (.sh (.int s)), some (.ol false ds), x4, none] 4 = true := by
      rcases b6 with rfl | ⟨d, rfl⟩ <;> simp
    have bm : a2 + many ≤ at_ + 1 + 5 * many := by
      have : (i : Int) * many ≤ 4 * many := Int.mul_le_mul_of_nonneg_right (by omega) m0
      omega
    have bi : ((i : Int) + 1) * many = i * many + many := by rw [Int.add_mul, Int.one_mul]
    simp only [q_forF, put_name, wpO_gd, x4f, true_and]
    simp
    refine ⟨small_of m0 (by omega), rfl, ?_⟩
    refine wp_compL (fun j acc ρ => ∃ a3 g3 x5, ρ = [some (.ol true (pen cells a3 g3)), some (.sh (.int many)), some (.sh (.int s)), some (.ol false ds), some (.sh (.int (i : Int))), x5] ∧ a2 ≤ a3 ∧ a3 ≤ a2 + j ∧ 0 ≤ g3 ∧ BarsA many acc ∧ acc.length ≤ j) ⟨a2, g2, none, rfl, by omega, by omega, b3, by simp [BarsA], by simp⟩ ?_ ?_
    · rintro j d acc ρ hd' ⟨a3, g3, x5, rfl, c1, c2, c3, c4, c5⟩
      obtain ⟨hj, rfl⟩ := rngD_get hd'
      simp [wipeE, Tg.vars]
      refine w_drawA hd rfl (by omega) (by omega) (by omega) (by omega) c3 fun v2 a4 g4 x1 x2 x3 x4 x5 => ?_
      simp
      have l5 : acc.length < 16777216 := by omega
      have l6 : (acc ++ [PyData.tuple [PyData.int i, PyData.int j]]).length ≤ j + 1 := by rw [List.length_append]; exact Nat.succ_le_succ c5
      refine wpI_of (fun _ => ⟨l5, a4, g4, ⟨_, rfl⟩, by omega, by omega, x5, ?_, l6⟩) fun _ => ⟨a4, g4, ⟨_, rfl⟩, by omega, by omega, x5, c4, by omega⟩
      · intro d hd
        rcases List.mem_append.mp hd with h | h
        · exact c4 d h
        · simp at h
          exact ⟨_, _, h, by omega, by omega, by omega, by omega⟩
    · rintro acc ρ ⟨a3, g3, x5, rfl, c1, c2, c3, c4, c5⟩
      have hm : (rngD 0 many.toNat 1).length = many.toNat := rngD_len
      rw [hm] at c2 c5
      simp [backE, Tg.vars]
      refine ⟨by omega, a3, g3, _, _, rfl, by omega, by rw [Int.natCast_add, Int.natCast_one, bi]; omega, c3, ?_, by simp; omega, .inr ⟨_, rfl⟩⟩
      intro d hd
      rcases List.mem_append.mp hd with h | h
      · exact b4 d h
      · exact c4 d h
  · rintro ρ ⟨a2, g2, ds, x4, rfl, b1, b2, b3, b4, b5, b6⟩
    have hm : (rngD 0 5 1).length = 5 := rfl
    rw [hm] at b2 b5
    simp
    exact penq (by omega) (by omega) b3 ⟨ds, rfl, b4, by omega⟩
/-! ### webs and standings, as plain things -/
theorem exL {α β : Type} {f : β → α} {P : β → Prop} : ∀ {xs : List α}, (∀ x ∈ xs, ∃ y, x = f y ∧ P y) → ∃ ys : List β, xs = ys.map f ∧ ∀ y ∈ ys, P y
  | [], _ => ⟨[], rfl, fun _ h => by cases h⟩
  | x :: xs, h => by
    obtain ⟨y, rfl, p⟩ := h x List.mem_cons_self
    obtain ⟨ys, rfl, q⟩ := exL (xs := xs) fun z hz => h z (List.mem_cons_of_mem _ hz)
    exact ⟨y :: ys, rfl, fun z hz => by
      rcases List.mem_cons.mp hz with rfl | hz
      · exact p
      · exact q z hz⟩
def gateD (g : Int × Int × Int) : D := .tuple [.int g.1, .int g.2.1, .int g.2.2]
def GateA (r : Int) (g : Int × Int × Int) : Prop := 0 ≤ g.1 ∧ g.1 < r ∧ 0 ≤ g.2.1 ∧ g.2.1 < r ∧ 1 ≤ g.2.2 ∧ g.2.2 ≤ 1000000000
def GateT (r : Int) (x : D) : Prop := ∃ g, x = gateD g ∧ GateA r g
def webD (r : Int) (gs : List (Int × Int × Int)) (bars : List D) : D := .tuple [.int r, .tuple (gs.map gateD), .tuple bars]
structure WebA (mr : Int) (mg : Nat) (d : D) : Prop where
  ex : ∃ (r : Int) (gs : List (Int × Int × Int)) (bars : List D), d = webD r gs bars ∧ 1 ≤ r ∧ r ≤ mr ∧ gs.length ≤ mg ∧ (∀ g ∈ gs, GateA r g) ∧ BarsA gs.length bars ∧ bars.length ≤ 120
def ownD : Option Nat → D
  | none => .none
  | some n => .int n
def standD (hs : List Int) (ls : List (Option Nat)) : D := .tuple [.tuple (hs.map .int), .tuple (ls.map ownD)]
structure StandA (r : Int) (n : Nat) (hs : List Int) (ls : List (Option Nat)) : Prop where
  w0 : 1 ≤ hs.length
  w1 : hs.length ≤ 5
  ln : ls.length = n
  hh : ∀ a ∈ hs, 0 ≤ a ∧ a < r
  hl : ∀ o ∈ ls, ∀ v, o = some v → v < hs.length
theorem web_specA {k f id ie ip ib : Nat} (hf : prog[f]? = some (A_web ib id ie ip)) (hd : prog[id]? = some f_law_draw) (he : prog[ie]? = some (A_ends id)) (hp : prog[ip]? = some (A_price id)) (hb : prog[ib]? = some (A_bars id)) (cells : List Int) {at_ g mr mg : Int} (h3 : 0 ≤ at_) (h4 : at_ + 1000 < 1000000) (h5 : 0 ≤ g) (r0 : 2 ≤ mr) (r1 : mr ≤ 12) (m0 : 2 ≤ mg) (m1 : mg ≤ 24) :
    Ret (run prog fuel (k + 3) f (.ol true (pen cells at_ g) :: ([.int mr, .int mg] : List D).map .sh)) (PenQ cells at_ 1000 (fun m => ∃ d, m = .sh d ∧ WebA mr mg.toNat d) (([.int mr, .int mg] : List D).map .sh)) := by
  refine ret_run (fd := A_web ib id ie ip) hf rfl (Nat.le_of_ble_eq_true rfl) rfl ?_
  simp [A_web]
  refine w_drawA hd rfl (by omega) (by omega) h3 (by omega) h5 fun kind a1 g1 u1 u2 u3 u4 u5 => ?_
  simp
  refine w_drawA hd rfl (by omega) (by omega) (by omega) (by omega) u5 fun v2 a2 g2 x1 x2 x3 x4 x5 => ?_
  simp
  refine w_drawA hd rfl (by omega) (by omega) (by omega) (by omega) x5 fun v3 a3 g3 y1 y2 y3 y4 y5 => ?_
  simp
  have hs : ∃ s : Int, atD [PyData.int mr, PyData.int (1 + v2), PyData.int 2] v3 = some (.int s) ∧ 1 ≤ s ∧ s ≤ mr := by
    rcases at3' (a := .int mr) (b := .int (1 + v2)) (c := .int 2) y1 y2 with e | e | e
    · exact ⟨_, e, by omega, by omega⟩
    · exact ⟨_, e, by omega, by omega⟩
    · exact ⟨_, e, by omega, by omega⟩
  obtain ⟨s, es, s0, s1⟩ := hs
  simp [es]
  refine w_drawA hd rfl (by omega) (by omega) (by omega) (by omega) y5 fun v4 a4 g4 z1 z2 z3 z4 z5 => ?_
  simp
  refine w_drawA hd rfl (by omega) (by omega) (by omega) (by omega) z5 fun v5 a5 g5 w1 w2 w3 w4 w5 => ?_
  simp
  have hn : ∃ n : Int, atD [PyData.int v4, PyData.int mg, PyData.int (if mg < s then mg else s)] v5 = some (.int n) ∧ 0 ≤ n ∧ n ≤ mg := by
    rcases at3' (a := .int v4) (b := .int mg) (c := .int (if mg < s then mg else s)) w1 w2 with e | e | e
    · exact ⟨_, e, by omega, by omega⟩
    · exact ⟨_, e, by omega, by omega⟩
    · exact ⟨_, e, by split <;> omega, by split <;> omega⟩
  obtain ⟨n, en, n0, n1⟩ := hn
  simp [en]
  obtain ⟨N, hN, hN0, hN1, hN2⟩ : ∃ N : Int, (n * if 1 < s then 1 else 0) = N ∧ 0 ≤ N ∧ N ≤ mg ∧ (0 < N → 2 ≤ s) := by
    by_cases q : 1 < s
    · exact ⟨n, by rw [if_pos q, Int.mul_one], n0, by omega, fun _ => by omega⟩
    · exact ⟨0, by rw [if_neg q, Int.mul_zero], by omega, by omega, fun h => by omega⟩
  rw [hN]
  refine ⟨.inl (by omega), small_of hN0 (by omega), ?_⟩
  refine wp_forL (fun i ρ => ∃ a g doors x7, ρ = [some (.ol true (pen cells a g)), some (.sh (.int mr)), some (.sh (.int mg)), some (.sh (.int kind)), some (.sh (.int s)), some (.sh (.int n)), some (.ol false doors), x7] ∧ a5 ≤ a ∧ a ≤ a5 + 5 * i ∧ 0 ≤ g ∧ doors.length = i ∧
      (∀ x ∈ doors, GateT s x) ∧ (x7 = none ∨ ∃ d, x7 = some (.sh d))) ⟨a5, g5, [], none, rfl, by omega, by omega, w5, rfl, by simp, .inl rfl⟩ ?_ ?_
  · rintro i d ρ hd' ⟨a, g, doors, x7, rfl, b1, b2, b3, b4, b5, b6⟩
    obtain ⟨hi, rfl⟩ := rngD_get hd'
    have x7f : free [some (.ol true (pen cells a g)), some (.sh (.int mr)), some (.sh (.int mg)), some (.sh (.int kind)), some (.sh (.int s)), some (.sh (.int n)), some (.ol false doors), x7] 7 = true := by
      rcases b6 with rfl | ⟨d, rfl⟩ <;> simp
    simp only [q_forF, put_name, wpO_gd, x7f, true_and]
    simp
    refine call_pen (ds := [.int kind, .int s, .int i]) (n := 2) rfl rfl (by simp) (ends_specA (k := k) he hd cells (by omega) (by omega) b3 u1 u2 (hN2 (by omega)) (by omega) (by omega)) fun m a6 g6 ⟨d, e, x, y, ed, q1, q2, q3, q4⟩ r1 r2 r3 => ?_
    subst e ed
    simp
    refine call_pen (ds := []) (n := 3) rfl rfl (by simp) (price_specA (k := k) hp hd cells (by omega) (by omega) r3) fun m a7 g7 ⟨c, e, c0, c1⟩ t1 t2 t3 => ?_
    subst e
    simp
    refine ⟨by omega, ?_⟩
    show ∃ _, _
    refine ⟨a7, g7, doors ++ [.tuple [.int x, .int y, .int c]], some (.sh (.int i)), rfl, by omega, by omega, t3, by simp [b4], ?_, .inr ⟨_, rfl⟩⟩
    intro z hz
    rcases List.mem_append.mp hz with h | h
    · exact b5 z h
    · simp at h
      exact ⟨(x, y, c), h, q1, q2, q3, q4, c0, c1⟩
  · rintro ρ ⟨a, g, doors, x7, rfl, b1, b2, b3, b4, b5, b6⟩
    have hm : (rngD 0 N.toNat 1).length = N.toNat := rngD_len
    rw [hm] at b2 b4
    simp
    refine call_pen (ds := [.int doors.length]) (n := 1 + 5 * doors.length) rfl rfl (by simp) (bars_specA (k := k) hb hd cells (by omega) (by omega) b3 (by omega) (by omega)) fun m a7 g7 ⟨bs, e, c0, c1⟩ t1 t2 t3 => ?_
    subst e
    simp
    obtain ⟨gs, rfl, hgs⟩ := exL b5
    rw [List.length_map] at b4 c0 t2
    exact penq (by omega) (by omega) t3 ⟨_, rfl, s, gs, bs, rfl, s0, s1, by omega, hgs, c0, c1⟩
theorem at5 {a b c d e : D} {v : Int} (h0 : 0 ≤ v) (h1 : v < 5) : ∃ x, atD [a, b, c, d, e] v = some x ∧ (x = a ∨ x = b ∨ x = c ∨ x = d ∨ x = e) := by
  obtain ⟨x, e1, h⟩ := at_mem (xs := [a, b, c, d, e]) h0 (by simpa using h1)
  exact ⟨x, e1, by simpa using h⟩
theorem standing_specA {k f i : Nat} (hf : prog[f]? = some (A_standing i)) (hd : prog[i]? = some f_law_draw) (cells : List Int) {at_ g r : Int} {gs : List (Int × Int × Int)} {bars : List D} (h3 : 0 ≤ at_) (h4 : at_ + 200 < 1000000) (h5 : 0 ≤ g) (r0 : 1 ≤ r) (r1 : r ≤ 12) (gl : gs.length ≤ 24) :
    Ret (run prog fuel (k + 2) f (.ol true (pen cells at_ g) :: ([webD r gs bars] : List D).map .sh)) (PenQ cells at_ 80 (fun m => ∃ hs ls, m = .sh (standD hs ls) ∧ StandA r gs.length hs ls) (([webD r gs bars] : List D).map .sh)) := by
  refine ret_run (fd := A_standing i) hf rfl (Nat.le_of_ble_eq_true rfl) rfl ?_
  simp [A_standing, webD]
  refine w_drawA hd rfl (by omega) (by omega) h3 (by omega) h5 fun v1 a1 g1 u1 u2 u3 u4 u5 => ?_
  simp
  refine w_drawA hd rfl (by omega) (by omega) (by omega) (by omega) u5 fun v2 a2 g2 x1 x2 x3 x4 x5 => ?_
  simp
  have hn : ∃ n : Nat, atD [PyData.int (1 + v1), PyData.int 2, PyData.int 5] v2 = some (.int n) ∧ 1 ≤ n ∧ n ≤ 5 := by
    rcases at3' (a := .int (1 + v1)) (b := .int 2) (c := .int 5) x1 x2 with e | e | e
    · exact ⟨(1 + v1).toNat, by rw [e]; congr 2; omega, by omega, by omega⟩
    · exact ⟨2, e, by omega, by omega⟩
    · exact ⟨5, e, by omega, by omega⟩
  obtain ⟨n, en, n0, n1⟩ := hn
  simp [en]
  refine ⟨small_of (by omega) (by omega), rfl, ?_⟩
  refine wp_compL (fun j acc ρ => ∃ a3 g3 x9, ρ = [some (.ol true (pen cells a3 g3)), some (.sh (.tuple [.int r, .tuple (gs.map gateD), .tuple bars])), some (.sh (.int n)), none, none, none, none, none, none, x9] ∧ a2 ≤ a3 ∧ a3 ≤ a2 + j ∧ 0 ≤ g3 ∧ acc.length = j ∧ ∀ x ∈ acc, ∃ a : Int, x = .int a ∧ 0 ≤ a ∧ a < r)
    ⟨a2, g2, none, rfl, by omega, by omega, x5, rfl, fun _ h => by cases h⟩ ?_ ?_
  · rintro j d acc ρ hd' ⟨a3, g3, x9, rfl, c1, c2, c3, c4, c5⟩
    obtain ⟨hj, rfl⟩ := rngD_get hd'
    have hj5 : j < n := by simpa using hj
    simp [wipeE, Tg.vars]
    refine w_drawA hd rfl (by omega) (by omega) (by omega) (by omega) c3 fun v3 a4 g4 y1 y2 y3 y4 y5 => ?_
    simp
    have l5 : acc.length < 16777216 := by omega
    refine ⟨l5, a4, g4, ⟨_, rfl⟩, by omega, by omega, y5, by simp [c4], app_all (P := fun x => ∃ a : Int, x = .int a ∧ 0 ≤ a ∧ a < r) c5 fun x hx => ?_⟩
    rw [List.mem_singleton.mp hx]
    exact ⟨_, rfl, y1, y2⟩
  · rintro acc ρ ⟨a3, g3, x9, rfl, c1, c2, c3, c4, c5⟩
    rw [rngD_len] at c2 c4
    have c4 : acc.length = n := by omega
    obtain ⟨hs, rfl, hh⟩ := exL c5
    rw [List.length_map] at c4
    simp [backE, Tg.vars]
    refine w_drawA hd rfl (by omega) (by omega) (by omega) (by omega) c3 fun kind a4 g4 y1 y2 y3 y4 y5 => ?_
    simp
    refine w_drawA hd rfl (by omega) (by omega) (by omega) (by omega) y5 fun one a5 g5 z1 z2 z3 z4 z5 => ?_
    simp
    refine wp_forL (fun j ρ => ∃ a g ds x7 x8, ρ = [some (.ol true (pen cells a g)), some (.sh (.tuple [.int r, .tuple (gs.map gateD), .tuple bars])), some (.sh (.int n)), some (.sh (.tuple (hs.map .int))), some (.sh (.int kind)), some (.sh (.int one)), some (.ol false ds), x7, x8, none] ∧ a5 ≤ a ∧ a ≤ a5 + 2 * j ∧ 0 ≤ g ∧ ds.length = j ∧ (∀ x ∈ ds, ∃ o : Option Nat, x = ownD o ∧ ∀ v, o = some v → v < hs.length) ∧ Lo x7 ∧ (Lo x8 ∨ ∃ l, x8 = some (.ol false l)))
      ⟨a5, g5, [], none, none, rfl, by omega, by omega, z5, rfl, (fun _ h => by cases h), .inl rfl, .inl (.inl rfl)⟩ ?_ ?_
    · rintro j d ρ hd' ⟨a, g, ds, x7, x8, rfl, b1, b2, b3, b4, b5, b6, b7⟩
      have hj : j < gs.length := by have := (List.getElem?_eq_some_iff.mp hd').1; rwa [List.length_map] at this
      have f8 : ∀ ρ : Env, free (x8 :: ρ) 0 = true := fun ρ => by
        rcases b7 with l5 | ⟨l, rfl⟩
        · exact l5.free ρ
        · simp
      simp [b6.free]
      refine w_drawA hd rfl (by omega) (by omega) (by omega) (by omega) b3 fun v3 a6 g6 p1 p2 p3 p4 p5 => ?_
      simp [f8]
      refine w_drawA hd rfl (by omega) (by omega) (by omega) (by omega) p5 fun v4 a7 g7 q1 q2 q3 q4 q5 => ?_
      simp
      obtain ⟨x, ex, hx⟩ := at5 (a := .int 0) (b := .int 1) (c := .int 2) (d := .int 2) (e := .int v4) y1 y2
      have hx3 : ∃ i : Int, x = .int i ∧ 0 ≤ i ∧ i < 3 := by
        rcases hx with rfl | rfl | rfl | rfl | rfl
        · exact ⟨0, rfl, by omega, by omega⟩
        · exact ⟨1, rfl, by omega, by omega⟩
        · exact ⟨2, rfl, by omega, by omega⟩
        · exact ⟨2, rfl, by omega, by omega⟩
        · exact ⟨_, rfl, q1, q2⟩
      obtain ⟨ix, rfl, i0, i1⟩ := hx3
      simp [ex]
      have pick : ∃ o : Option Nat, atD [PyData.none, PyData.int one, PyData.int v3] ix = some (ownD o) ∧ ∀ v, o = some v → v < hs.length := by
        rcases at3' (a := .none) (b := .int one) (c := .int v3) i0 i1 with e | e | e
        · exact ⟨none, e, by simp⟩
        · exact ⟨some one.toNat, by rw [e]; simp only [ownD]; congr 2; omega, fun v hv => by cases hv; omega⟩
        · exact ⟨some v3.toNat, by rw [e]; simp only [ownD]; congr 2; omega, fun v hv => by cases hv; omega⟩
      obtain ⟨o, eo, ho⟩ := pick
      simp [eo]
      have l5 : ds.length < 16777216 := by omega
      refine ⟨l5, a7, g7, ds ++ [ownD o], _, _, rfl, by omega, by omega, q5, by simp [b4], ?_, .sh _, .inr ⟨_, rfl⟩⟩
      exact app_all (P := fun x => ∃ o : Option Nat, x = ownD o ∧ ∀ v, o = some v → v < hs.length) b5 fun z hz => by rw [List.mem_singleton.mp hz]; exact ⟨o, rfl, ho⟩
    · rintro ρ ⟨a, g, ds, x7, x8, rfl, b1, b2, b3, b4, b5, b6, b7⟩
      rw [List.length_map] at b2 b4
      obtain ⟨ls, rfl, hl⟩ := exL b5
      rw [List.length_map] at b4
      simp
      exact penq (by omega) (by omega) b3 ⟨hs, ls, rfl, by omega, by omega, b4, hh, hl⟩
end MI
namespace MI
open PySem PyProof.Rows
/-! ### texts (law k80) -/
abbrev sI (i : Int) : Str := Str.ofString (toString i)
abbrev sT (s : String) : Str := Str.ofString s
/-- seen signs alone, at most n of them -/
structure Seen (n : Nat) (s : Str) : Prop where
  sg : ∀ c ∈ TL.tl s, 33 ≤ c ∧ c ≤ 126
  ln : s.length ≤ n
  ne : TL.tl s ≠ []
theorem Seen.mono {n m : Nat} {s : Str} (h : Seen n s) (l : n ≤ m) : Seen m s := ⟨h.sg, by have := h.ln; omega, h.ne⟩
theorem seen_int {i : Int} (h0 : 0 ≤ i) (h1 : i < 10000000000) : Seen 11 (sI i) := by
  obtain ⟨n, rfl⟩ := Int.eq_ofNat_of_zero_le h0
  refine ⟨fun c hc => ?_, ?_, ?_⟩
  · have hc : c ∈ TL.numL n := by rw [← TL.tl_num]; exact hc
    have := TL.numL_digits n c hc
    omega
  · have e := int_text_length_le10 (a := (n : Int)) (k := 10) (by decide) (by simpa using (by omega : n < 10 ^ 10))
    have e2 : (Str.ofString (toString (n : Int))).length = (toString (n : Int)).length := PySem.ofString_length _
    show (Str.ofString (toString (n : Int))).length ≤ _
    omega
  · show TL.tl (Str.ofString (toString ((n : Nat) : Int))) ≠ []
    rw [TL.tl_num]
    exact TL.numL_ne n
/-- plain signs alone, at most n -/
structure Plain (n : Nat) (s : Str) : Prop where
  sg : ∀ c ∈ TL.tl s, c < 127
  ln : s.length ≤ n
theorem Seen.plain {n : Nat} {s : Str} (h : Seen n s) : Plain n s := ⟨fun c hc => by have := h.sg c hc; omega, h.ln⟩
theorem Plain.mono {n m : Nat} {s : Str} (h : Plain n s) (l : n ≤ m) : Plain m s := ⟨h.sg, by have := h.ln; omega⟩
theorem Plain.app {n m : Nat} {s t : Str} (h : Plain n s) (h2 : Plain m t) : Plain (n + m) (s ++ t) := ⟨fun c hc => by
  rw [TL.tl_append, List.mem_append] at hc
  exact hc.elim (h.sg c) (h2.sg c), by have := h.ln; have := h2.ln; rw [strLen_append]; omega⟩
theorem plain_of {n : Nat} {s : Str} (h : ((TL.tl s).all fun c => decide (c < 127)) = true) (l : s.length ≤ n) : Plain n s := ⟨fun c hc => of_decide_eq_true (List.all_eq_true.mp h c hc), l⟩
theorem plain_nil : Plain 0 Str.empty := ⟨fun c hc => (by cases hc), Nat.le_refl _⟩
theorem Plain.join {n k : Nat} {sep : Str} (hs : Plain k sep) : ∀ {ts : List Str}, (∀ t ∈ ts, Plain n t) → Plain (ts.length * (n + k)) (Str.join sep ts)
  | [], _ => by rw [List.length_nil, Nat.zero_mul]; exact plain_nil
  | [x], h => (h x List.mem_cons_self).mono (by simp)
  | x :: y :: r, h => by
    show Plain _ (x ++ sep ++ Str.join sep (y :: r))
    refine (((h x List.mem_cons_self).app hs).app (Plain.join hs (ts := y :: r) fun t ht => h t (List.mem_cons_of_mem _ ht))).mono ?_
    simp only [List.length_cons, Nat.add_mul, Nat.one_mul]
    omega
theorem len_sum {n : Nat} : ∀ {ts : List Str}, (∀ t ∈ ts, t.length ≤ n) → (ts.map (·.length)).sum ≤ ts.length * n
  | [], _ => by simp
  | x :: r, h => by
    have := len_sum (ts := r) fun t ht => h t (List.mem_cons_of_mem _ ht)
    have := h x List.mem_cons_self
    simp only [List.map_cons, List.sum_cons, List.length_cons, Nat.add_mul, Nat.one_mul]
    omega
theorem strs_map (ts : List Str) : strsOf (ts.map PyData.str) = some ts := by
  induction ts with
  | nil => rfl
  | cons t ts ih => simp [strsOf, ih]
/-- sep.join(list of texts) -/
theorem joinD_ok {sep : Str} {ts : List Str} {n : Nat} (h : ∀ t ∈ ts, t.length ≤ n) (l : ts.length * n + ts.length * sep.length ≤ Lim) : joinD sep (.list (ts.map .str)) = some (.val (.str (Str.join sep ts))) := by
  unfold joinD
  simp only [seqOf, Option.bind_some, strs_map]
  have := len_sum h
  unfold gd
  rw [if_pos (by simp only [decide_eq_true_eq]; omega)]
/-! ### the last sign -/
theorem rstrip_same {x : Str} (h : ∀ c, (TL.tl x).reverse.head? = some c → Unicode.isSpace c = false) : Txt.rstrip x = x := by
  have e3 : stripHi Unicode.isSpace true x 0 = x.length := by
    unfold stripHi
    have e2 : (x.cps.toList.drop 0).reverse.takeWhile Unicode.isSpace = [] := by
      cases hr : (x.cps.toList.drop 0).reverse with
      | nil => rfl
      | cons c r =>
        have := h c (by show (x.cps.toList).reverse.head? = _; rw [List.drop_zero] at hr; rw [hr]; rfl)
        rw [List.takeWhile_cons, if_neg (by rw [this]; exact Bool.false_ne_true)]
    rw [if_pos rfl, e2]
    rfl
  unfold Txt.rstrip Txt.stripBy stripSame
  have e0 : stripLo Unicode.isSpace false x = 0 := rfl
  rw [e0, e3]
  exact if_pos (by simp)
theorem last_app {a b : List Nat} (h : b ≠ []) : (a ++ b).reverse.head? = b.reverse.head? := by
  rw [List.reverse_append]
  cases e : b.reverse with
  | nil => exact absurd (by simpa using e) h
  | cons c r => rfl
theorem join_cons {sep x : Str} {r : List Str} (h : r ≠ []) : Str.join sep (x :: r) = x ++ sep ++ Str.join sep r := by
  cases r with
  | nil => exact absurd rfl h
  | cons y r => rfl
theorem join_last {n : Nat} {sep : Str} : ∀ {ts : List Str}, ts ≠ [] → (∀ t ∈ ts, Seen n t) → TL.tl (Str.join sep ts) ≠ [] ∧ ∀ c, (TL.tl (Str.join sep ts)).reverse.head? = some c → Unicode.isSpace c = false
  | [], h, _ => absurd rfl h
  | [x], _, h => ⟨(h x List.mem_cons_self).ne, fun c hc => by
    have m : c ∈ TL.tl x := by
      have : c ∈ (TL.tl x).reverse := List.mem_of_mem_head? (by exact hc)
      exact List.mem_reverse.mp this
    have := (h x List.mem_cons_self).sg c m
    exact PySem.W.KWk.nosp this.1 this.2⟩
  | x :: y :: r, _, h => by
    obtain ⟨i1, i2⟩ := join_last (sep := sep) (ts := y :: r) (by simp) fun t ht => h t (List.mem_cons_of_mem _ ht)
    have e : TL.tl (Str.join sep (x :: y :: r)) = TL.tl (x ++ sep) ++ TL.tl (Str.join sep (y :: r)) := TL.tl_append _ _
    rw [e]
    exact ⟨by simp [i1], fun c hc => i2 c (by rw [last_app i1] at hc; exact hc)⟩
theorem own_line {n : Nat} {os : List Str} (h : ∀ t ∈ os, Seen n t) : Txt.rstrip (Str.empty ++ sT "own " ++ Str.join (sT " ") os) = Str.join (sT " ") (sT "own" :: os) := by
  have e0 : sT "own " = sT "own" ++ sT " " := by decide +kernel
  by_cases ho : os = []
  · subst ho
    show Txt.rstrip (Str.empty ++ sT "own " ++ Str.empty) = sT "own"
    decide +kernel
  · rw [join_cons ho, Str.empty_append, e0]
    refine rstrip_same fun c hc => ?_
    obtain ⟨i1, i2⟩ := join_last (sep := sT " ") ho h
    rw [TL.tl_append, last_app i1] at hc
    exact i2 c hc
theorem gate_line (a b c : Str) : Str.empty ++ sT "gate " ++ a ++ sT " " ++ b ++ sT " " ++ c = Str.join (sT " ") [sT "gate", a, b, c] := by
  have e0 : sT "gate " = sT "gate" ++ sT " " := by decide +kernel
  show _ = sT "gate" ++ sT " " ++ (a ++ sT " " ++ (b ++ sT " " ++ c))
  rw [Str.empty_append, e0]
  simp only [Str.append_assoc]
theorem join_two (s a b : Str) : Str.join s [a, b] = a ++ s ++ b := rfl
end MI
namespace MI
open PySem PyProof.Rows
section
variable (cx : Cxt) (ρ : Env) (Q : R → Env → Prop)
@[simp ↓] theorem s_fmt (a : Ex) : Wp (evE cx (.fmt a) ρ) Q = Wp (evE cx a ρ) fun ra ρ => wpO ((ra.cont ρ).bind fmtD) fun r => Q r ρ := by
  simp only [evE, s_bind, s_lift]
@[simp ↓] theorem s_rstr (a : Ex) : Wp (evE cx (.rstr a) ρ) Q = Wp (evE cx a ρ) fun ra ρ => wpO ((ra.cont ρ).bind rstripD) fun r => Q r ρ := by
  simp only [evE, s_bind, s_lift]
@[simp ↓] theorem s_lstS (es : List Ex) (e : Ex) : Wp (evE cx (.lstS es e) ρ) Q = Wp (evDs cx es ρ) fun ds ρ => Wp (evE cx e ρ) fun r ρ => Wp (MI.frz r ρ) fun d ρ => wpO (seqOf d) fun ys => (ds ++ ys).length ≤ Lim ∧ Q (.new (ds ++ ys)) ρ := by
  simp only [evE, s_bind, s_lift]
  congr 1
  funext ds ρ
  congr 1
  funext r ρ
  congr 1
  funext d ρ
  congr 1
  funext ys
  rw [wp_ite]
  by_cases h : (ds ++ ys).length ≤ Lim
  · rw [if_pos h, eq_true h, true_and]; rfl
  · rw [if_neg h, eq_false h, false_and]; rfl
def strOf : D → Option Str
  | .str y => some y
  | _ => none
@[simp] theorem strOf_str (y : Str) : strOf (.str y) = some y := rfl
@[simp ↓] theorem s_fstr (es : List Ex) : Wp (evE cx (.fstr es) ρ) Q = Wp (evJs cx es Str.empty ρ) Q := by simp only [evE]
@[simp ↓] theorem s_jsnil (acc : Str) : Wp (evJs cx [] acc ρ) Q = Q (.val (.str acc)) ρ := by simp only [evJs]; rfl
@[simp ↓] theorem s_jscons (e : Ex) (es : List Ex) (acc : Str) : Wp (evJs cx (e :: es) acc ρ) Q = Wp (evE cx e ρ) fun r ρ => Wp (MI.frz r ρ) fun d ρ => wpO (strOf d) fun y => (acc ++ y).length ≤ Lim ∧ Wp (evJs cx es (acc ++ y) ρ) Q := by
  simp only [evJs, s_bind]
  congr 1
  funext r ρ
  congr 1
  funext d ρ
  cases d with
  | str y =>
    show Wp (if _ then _ else _) _ = (_ ∧ _)
    rw [wp_ite]
    by_cases h : (acc ++ y).length ≤ Lim
    · rw [if_pos h, eq_true h, true_and]
    · rw [if_neg h, eq_false h, false_and]; rfl
  | _ => rfl
end
/-- a comprehension over mapped items -/
theorem wp_map {α : Type} {cx : Cxt} {elt : Ex} {tg : Tg} {ρ1 : Env} {Q : R → Env → Prop} (xs : List α) (f G : α → D) (hk : keepOk tg.vars ρ1 = true) (hl : xs.length ≤ Lim)
    (step : ∀ a ∈ xs, wpO (Tg.put tg (f a) (wipeE ρ1 tg.vars)) fun ρ => Wp (evE cx elt ρ) fun r ρ => Wp (MI.frz r ρ) fun x ρ => x = G a ∧ wipeE ρ tg.vars = wipeE ρ1 tg.vars)
    (q : Q (.new (xs.map G)) ρ1) : wpC cx elt tg none (xs.map f) ρ1 Q := by
  have hv : ∀ v ∈ tg.vars, v < ρ1.length := fun v hv => by
    have := List.all_eq_true.mp hk v hv
    simp only [Bool.and_eq_true, decide_eq_true_eq] at this
    exact this.1
  refine ⟨hk, wp_compL (fun i acc ρ => acc = (xs.take i).map G ∧ wipeE ρ tg.vars = wipeE ρ1 tg.vars) ⟨rfl, rfl⟩ (fun i d acc ρ hd ⟨ha, hw⟩ => ?_) fun acc ρ ⟨ha, hw⟩ => ?_⟩
  · rw [List.getElem?_map, Option.map_eq_some_iff] at hd
    obtain ⟨a, ea, rfl⟩ := hd
    have hlt : i < xs.length := (List.getElem?_eq_some_iff.mp ea).1
    have st := step a (List.mem_of_getElem? ea)
    rw [q_turn, hw]
    cases hp : Tg.put tg (f a) (wipeE ρ1 tg.vars) with
    | none => rw [hp] at st; exact st
    | some ρ2 =>
      rw [hp] at st
      rw [wpO_some, q_cond0, wpI_true]
      refine Wp.mono (show Wp (evE cx elt ρ2) _ from st) fun r ρ4 h => Wp.mono h fun x ρ5 h => ?_
      subst ha
      refine ⟨?_, ?_, h.2⟩
      · rw [List.length_map, List.length_take]
        have : xs.length ≤ 16777216 := hl
        show _ < 16777216
        omega
      · rw [List.take_add_one, ea, List.map_append, h.1]
        rfl
  · rw [back_same hw hv, ha, List.length_map, List.take_length]
    exact q
theorem ext_ok {xs ys : List D} (h : xs.length + ys.length ≤ Lim) : opMu .extend xs [.list ys] = some (.none, xs ++ ys) := by
  show gd (decide (xs.length + ys.length ≤ Lim)) _ = _
  rw [decide_eq_true h]
  rfl
/-- small, not below 0 -/
abbrev Sml (i : Int) : Prop := 0 ≤ i ∧ i < 10000000000
theorem sml_log {i : Int} (h : Sml i) : i.natAbs.log2 < 1920 := by
  by_cases hz : i.natAbs = 0
  · rw [hz]; decide
  · have : i.natAbs.log2 < 34 := (Nat.log2_lt hz).mpr (Nat.lt_of_lt_of_le (by omega : i.natAbs < 10000000000) (by decide))
    omega
theorem fmt_int {i : Int} (h : Sml i) : fmtD (.int i) = some (.val (.str (sI i))) := by
  show gd (decide (i.natAbs.log2 < 1920)) _ = _
  rw [decide_eq_true (sml_log h)]
  rfl
theorem str_int {i : Int} (h : Sml i) : opB1 .str (.int i) = some (.val (.str (sI i))) := by
  show gd (decide (i.natAbs.log2 < 1920)) _ = _
  rw [decide_eq_true (sml_log h)]
  rfl
theorem fmt_str {s : Str} (h : s.length ≤ Lim) : fmtD (.str s) = some (.val (.str s)) := by
  show gd (decide (s.length ≤ Lim)) _ = _
  rw [decide_eq_true h]
  rfl
theorem rstrip_str {s : Str} (h : s.length ≤ Lim) : rstripD (.str s) = some (.val (.str (Txt.rstrip s))) := by
  show gd (decide (s.length ≤ Lim)) _ = _
  rw [decide_eq_true h]
  rfl
/-- texts put together -/
theorem add_str {s t : Str} (h : s.length + t.length ≤ Lim) : opBin .add (.str s) (.str t) = some (.val (.str (s ++ t))) := by
  show gd _ _ = _
  unfold gd
  rw [if_pos (by simpa using h)]
/-- repr of a list of plain texts -/
theorem strs_shown {n : Nat} : ∀ {ts : List Str}, (∀ t ∈ ts, Plain n t) → piled (PyData.shownAll (ts.map .str)) ≤ ts.length * (10 * n + 4) ∧ PyData.showableAll (ts.map .str) = true ∧ PyData.plainAll (ts.map .str) = true ∧ PyData.depthAll (ts.map .str) = 0
  | [], _ => ⟨Nat.zero_le _, by simp [PyData.showableAll], rfl, rfl⟩
  | t :: ts, h => by
    obtain ⟨a1, a2, a3, a4⟩ := strs_shown (ts := ts) fun x hx => h x (List.mem_cons_of_mem _ hx)
    have p := h t List.mem_cons_self
    have l := StrLaws.reprText_len t fun c hc => Nat.lt_trans (p.sg c hc) (by decide)
    have l2 := p.ln
    simp only [List.map_cons, PyData.shownAll, PyData.shown, PyData.showableAll, PyData.showable, PyData.plainAll, PyData.plain, PyData.depthAll, PyData.depth, piled_cons, List.length_cons, Nat.add_mul, Nat.one_mul, a2, a3, a4]
    refine ⟨?_, by simp, by simp, by simp⟩
    have : (List.length ts) * (10 * n) + ts.length * 4 = ts.length * (10 * n + 4) := (Nat.mul_add _ _ _).symm
    omega
theorem repr_strs {n : Nat} {ts : List Str} (h : ∀ t ∈ ts, Plain n t) (hn : ts.length * (10 * n + 4) + 2 ≤ Lim) : reprD (.list (ts.map .str)) = some (.val (.str (PyData.list (ts.map .str)).shown)) := by
  obtain ⟨a1, a2, a3, a4⟩ := strs_shown h
  unfold reprD
  have e : okRepr (.list (ts.map .str)) = true := by
    have sh : (PyData.list (ts.map .str)).shown.length ≤ 16777216 := by
      have e0 : (PyData.list (ts.map .str)).shown = textFrom 0 "[" (PyData.shownAll (ts.map .str)) ++ "]" := by simp only [PyData.shown]; rfl
      rw [e0, strLen_append]
      have := textFrom_le (PyData.shownAll (ts.map .str)) 0 "["
      have e1 : (Str.ofString "[").length = 1 := by decide +kernel
      have e2 : (Str.ofString "]").length = 1 := by decide +kernel
      have hn : ts.length * (10 * n + 4) + 2 ≤ 16777216 := hn
      omega
    unfold okRepr
    simp only [Bool.and_eq_true, decide_eq_true_eq, Bool.or_eq_true]
    refine ⟨⟨⟨?_, sh⟩, ?_⟩, .inl ?_⟩
    · simp only [PyData.showable]; exact a2
    · simp only [PyData.depth, a4]; omega
    · simp only [PyData.plain]; exact a3
  rw [e]
  rfl
end MI
namespace Q
open MI PySem
def f_show_web_2 : List Sx := .expr (.mu .extend 1 [.comp (.fstr [.str "bar ", .fmt (.var 5), .str " ", .fmt (.var 6)]) (.tup [.name 5, .name 6]) (.seq (.idx (.var 0) (.int 2))) none]) :: [.ret (.join "\n" (.var 1))]
def f_show_web_1 : List Sx := .expr (.mu .extend 1 [.comp (.fstr [.str "gate ", .fmt (.var 2), .str " ", .fmt (.var 3), .str " ", .fmt (.var 4)]) (.tup [.name 2, .name 3, .name 4]) (.seq (.idx (.var 0) (.int 1))) none]) :: f_show_web_2
def f_show_web : Fd := ⟨1, 7, .asg 1 (.lst [.fstr [.str "rooms ", .fmt (.idx (.var 0) (.int 0))]]) :: f_show_web_1⟩
def f_show_owner_1 : List Sx := [.ret (.ite (.cmp .eq (.var 0) (.glo "ANY" (.str (PySem.Str.ofString "any")))) (.str "?") (.bi1 .str (.var 0)))]
def f_show_owner : Fd := ⟨1, 1, .ite (.cmp .isN (.var 0) (.non)) [.ret (.str "-")] [] :: f_show_owner_1⟩
def f_show_owners : Fd := ⟨1, 2, [.ret (.join " " (.comp (.call 1 [.var 1] [true] [.e 0]) (.name 1) (.seq (.var 0)) none))]⟩
def f_show_standing_1 : List Sx := [.ret (.join "\n" (.lst [.join " " (.lstS [.str "at"] (.comp (.bi1 .str (.var 3)) (.name 3) (.seq (.var 1)) none)), .rstr (.fstr [.str "own ", .fmt (.call 2 [.var 2] [false] [.e 0])])]))]
def f_show_standing : Fd := ⟨1, 4, .unp [1, 2] (.var 0) :: f_show_standing_1⟩
def f_show_wish : Fd := ⟨1, 1, [.ret (.call 3 [.var 0] [false] [.e 0])]⟩
def f_show_moves : Fd := ⟨1, 3, [.ret (.join " " (.comp (.fstr [.fmt (.var 1), .str ":", .fmt (.var 2)]) (.tup [.name 1, .name 2]) (.seq (.var 0)) none))]⟩
def f_law_pen : Fd := ⟨1, 1, [.ret (.lst [.bi1 .list (.sl (.var 0) none (some (.int 63))), .int 0, .int 0])]⟩
def f_law_draw_0t_1 : List Sx := .setI 0 (.int 2) (.bin .fdiv (.idx (.var 0) (.int 2)) (.var 1)) :: [.ret (.var 5)]
def f_law_draw_0t : List Sx := .asg 5 (.bin .mod (.idx (.var 0) (.int 2)) (.var 1)) :: f_law_draw_0t_1
def f_law_draw_5t_1 : List Sx := .setI 0 (.int 2) (.bin .fdiv (.var 6) (.var 1)) :: [.ret (.bin .mod (.var 6) (.var 1))]
def f_law_draw_5t : List Sx := .asg 6 (.bin .add (.bin .mul (.int 2) (.bi1 .abs (.var 3))) (.bi1 .int (.cmp .lt (.var 3) (.int 0)))) :: f_law_draw_5t_1
def f_law_draw_7 : List Sx := .asg 4 (.bin .mod (.bin .pow (.bin .add (.bin .add (.bin .mul (.var 4) (.bin .add (.var 2) (.int 20021))) (.bin .mul (.bin .mul (.int 71011) (.var 2)) (.var 2))) (.int 29)) (.int 3)) (.int 2147483579)) :: [.ret (.bin .mod (.bin .fdiv (.var 4) (.int 32)) (.var 1))]
def f_law_draw_6 : List Sx := .asg 4 (.bin .mod (.bin .pow (.bin .add (.bin .add (.bin .mod (.var 3) (.int 2147483543)) (.bin .mul (.int 60013) (.var 2))) (.int 151)) (.int 5)) (.int 2147483647)) :: f_law_draw_7
def f_law_draw_5 : List Sx := .ite (.and (.cmp .lt (.var 2) (.bi1 .len (.idx (.var 0) (.int 0)))) (.cmp .ge (.bi1 .abs (.var 3)) (.bin .pow (.int 10) (.int 18)))) f_law_draw_5t [] :: f_law_draw_6
def f_law_draw_4 : List Sx := .ite (.cmp .ne (.idx (.var 0) (.int 0)) (.lst [])) [.asg 3 (.idx (.idx (.var 0) (.int 0)) (.bin .mod (.var 2) (.bi1 .len (.idx (.var 0) (.int 0)))))] [] :: f_law_draw_5
def f_law_draw_3 : List Sx := .asg 3 (.bin .add (.bin .mul (.int 3571) (.var 2)) (.int 307)) :: f_law_draw_4
def f_law_draw_2 : List Sx := .setI 0 (.int 1) (.bin .add (.var 2) (.int 1)) :: f_law_draw_3
def f_law_draw_1 : List Sx := .asg 2 (.idx (.var 0) (.int 1)) :: f_law_draw_2
def f_law_draw : Fd := ⟨2, 7, .ite (.cmp .gt (.idx (.var 0) (.int 2)) (.int 0)) f_law_draw_0t [] :: f_law_draw_1⟩
def f_law_price_1 : List Sx := [.ret (.idx (.lst [.int 1, .bin .add (.int 1) (.call 7 [.var 0, .int 12] [true, true] [.e 0, .e 1]), .bin .pow (.int 10) (.int 9), .var 1]) (.call 7 [.var 0, .int 4] [true, true] [.e 0, .e 1]))]
def f_law_price : Fd := ⟨1, 2, .asg 1 (.bin .add (.int 1) (.call 7 [.var 0, .bin .pow (.int 10) (.int 9)] [true, true] [.e 0, .e 1])) :: f_law_price_1⟩
def f_law_ends_4 : List Sx := [.ret (.tup [.bi1 .min (.idx (.var 5) (.var 1)), .bi1 .max (.idx (.var 5) (.var 1))])]
def f_law_ends_3 : List Sx := .expr (.mu .append 5 [.tup [.var 4, .bin .mod (.bin .add (.bin .add (.var 4) (.int 1)) (.call 7 [.var 0, .bin .sub (.var 2) (.int 1)] [true, true] [.e 0, .e 1])) (.var 2)]]) :: f_law_ends_4
def f_law_ends_2 : List Sx := .asg 5 (.bin .add (.var 5) (.lst [.tup [.var 4, .idx (.lst [.bin .mod (.bin .add (.var 4) (.int 1)) (.var 2), .bin .add (.var 4) (.int 2)]) (.bi1 .int (.cmp .lt (.bin .add (.var 4) (.int 2)) (.var 2)))], .tup [.int 0, .int 1]])) :: f_law_ends_3
def f_law_ends_1 : List Sx := .asg 5 (.lst [.tup [.bin .mod (.var 3) (.bin .sub (.var 2) (.int 1)), .bin .add (.bin .mod (.var 3) (.bin .sub (.var 2) (.int 1))) (.int 1)], .tup [.bin .mod (.var 3) (.var 2), .bin .mod (.bin .add (.var 3) (.int 1)) (.var 2)], .tup [.int 0, .bin .add (.int 1) (.bin .mod (.var 3) (.bin .sub (.var 2) (.int 1)))]]) :: f_law_ends_2
def f_law_ends : Fd := ⟨4, 6, .asg 4 (.call 7 [.var 0, .var 2] [true, true] [.e 0, .e 1]) :: f_law_ends_1⟩
def f_law_bars_2b : List Sx := [.asg 3 (.bin .add (.var 3) (.comp (.tup [.var 4, .var 5]) (.name 5) (.rng [.var 1]) (some (.cmp .lt (.call 7 [.var 0, .int 9] [true, true] [.e 0, .e 1]) (.var 2)))))]
def f_law_bars_2 : List Sx := .for (.name 4) (.rng [.int 5]) f_law_bars_2b :: [.ret (.bi1 .tuple (.var 3))]
def f_law_bars_1 : List Sx := .asg 3 (.lst []) :: f_law_bars_2
def f_law_bars : Fd := ⟨2, 6, .asg 2 (.idx (.lst [.int 0, .int 1, .int 4]) (.call 7 [.var 0, .int 3] [true, true] [.e 0, .e 1])) :: f_law_bars_1⟩
def f_law_web_4b : List Sx := [.expr (.mu .append 6 [.bin .add (.call 9 [.var 0, .var 3, .var 4, .var 7] [true, true, true, true] [.e 0, .e 1, .e 2, .e 3]) (.tup [.call 8 [.var 0] [true] [.e 0]])])]
def f_law_web_5 : List Sx := [.ret (.tup [.var 4, .bi1 .tuple (.var 6), .call 10 [.var 0, .bi1 .len (.var 6)] [true, false] [.e 0, .e 1]])]
def f_law_web_4 : List Sx := .for (.name 7) (.rng [.bin .mul (.var 5) (.bi1 .int (.cmp .gt (.var 4) (.int 1)))]) f_law_web_4b :: f_law_web_5
def f_law_web_3 : List Sx := .asg 6 (.lst []) :: f_law_web_4
def f_law_web_2 : List Sx := .asg 5 (.idx (.lst [.call 7 [.var 0, .bin .add (.var 2) (.int 1)] [true, true] [.e 0, .e 1], .var 2, .bi2 .min (.var 4) (.var 2)]) (.call 7 [.var 0, .int 3] [true, true] [.e 0, .e 1])) :: f_law_web_3
def f_law_web_1 : List Sx := .asg 4 (.idx (.lst [.var 1, .bin .add (.int 1) (.call 7 [.var 0, .var 1] [true, true] [.e 0, .e 1]), .int 2]) (.call 7 [.var 0, .int 3] [true, true] [.e 0, .e 1])) :: f_law_web_2
def f_law_web : Fd := ⟨3, 8, .asg 3 (.call 7 [.var 0, .int 6] [true, true] [.e 0, .e 1]) :: f_law_web_1⟩
def f_law_standing_5b_1 : List Sx := [.expr (.mu .append 6 [.idx (.var 8) (.idx (.lst [.int 0, .int 1, .int 2, .int 2, .call 7 [.var 0, .int 3] [true, true] [.e 0, .e 1]]) (.var 4))])]
def f_law_standing_5b : List Sx := .asg 8 (.lst [.non, .var 5, .call 7 [.var 0, .var 2] [true, true] [.e 0, .e 1]]) :: f_law_standing_5b_1
def f_law_standing_5 : List Sx := .for (.name 7) (.seq (.idx (.var 1) (.int 1))) f_law_standing_5b :: [.ret (.tup [.var 3, .bi1 .tuple (.var 6)])]
def f_law_standing_4 : List Sx := .asg 6 (.lst []) :: f_law_standing_5
def f_law_standing_3 : List Sx := .asg 5 (.call 7 [.var 0, .var 2] [true, true] [.e 0, .e 1]) :: f_law_standing_4
def f_law_standing_2 : List Sx := .asg 4 (.call 7 [.var 0, .int 5] [true, true] [.e 0, .e 1]) :: f_law_standing_3
def f_law_standing_1 : List Sx := .asg 3 (.bi1 .tuple (.comp (.call 7 [.var 0, .idx (.var 1) (.int 0)] [true, true] [.e 0, .e 1]) (.name 9) (.rng [.var 2]) none)) :: f_law_standing_2
def f_law_standing : Fd := ⟨2, 10, .asg 2 (.idx (.lst [.bin .add (.int 1) (.call 7 [.var 0, .int 5] [true, true] [.e 0, .e 1]), .int 2, .int 5]) (.call 7 [.var 0, .int 3] [true, true] [.e 0, .e 1])) :: f_law_standing_1⟩
def f_law_wish_2b : List Sx := [.expr (.mu .append 3 [.idx (.lst [.var 4, .str "any"]) (.bi1 .int (.cmp .lt (.call 7 [.var 0, .int 4] [true, true] [.e 0, .e 1]) (.var 2)))])]
def f_law_wish_2 : List Sx := .for (.name 4) (.seq (.idx (.var 1) (.int 1))) f_law_wish_2b :: [.ret (.tup [.idx (.var 1) (.int 0), .bi1 .tuple (.var 3)])]
def f_law_wish_1 : List Sx := .asg 3 (.lst []) :: f_law_wish_2
def f_law_wish : Fd := ⟨2, 5, .asg 2 (.call 7 [.var 0, .int 4] [true, true] [.e 0, .e 1]) :: f_law_wish_1⟩
def f_law_lord_1 : List Sx := [.ret (.ite (.cmp .eq (.var 0) (.str "any")) (.str "?") (.bi1 .str (.var 0)))]
def f_law_lord : Fd := ⟨1, 1, .ite (.cmp .isN (.var 0) (.non)) [.ret (.str "-")] [] :: f_law_lord_1⟩
def f_law_web_text_1b : List Sx := [.expr (.mu .append 1 [.join " " (.lst [.str "gate", .bi1 .str (.idx (.var 2) (.int 0)), .bi1 .str (.idx (.var 2) (.int 1)), .bi1 .str (.idx (.var 2) (.int 2))])])]
def f_law_web_text_2b : List Sx := [.expr (.mu .append 1 [.bin .add (.bin .add (.bin .add (.str "bar ") (.bi1 .str (.var 3))) (.str " ")) (.bi1 .str (.var 2))])]
def f_law_web_text_2 : List Sx := .for (.tup [.name 3, .name 2]) (.seq (.idx (.var 0) (.int 2))) f_law_web_text_2b :: [.ret (.join "\n" (.var 1))]
def f_law_web_text_1 : List Sx := .for (.name 2) (.seq (.idx (.var 0) (.int 1))) f_law_web_text_1b :: f_law_web_text_2
def f_law_web_text : Fd := ⟨1, 4, .asg 1 (.lst [.bin .add (.str "rooms ") (.bi1 .str (.idx (.var 0) (.int 0)))]) :: f_law_web_text_1⟩
def f_law_two_text_1 : List Sx := [.ret (.bin .add (.bin .add (.var 1) (.str "\n")) (.join " " (.bin .add (.lst [.str "own"]) (.comp (.call 14 [.var 3] [true] [.e 0]) (.name 3) (.seq (.idx (.var 0) (.int 1))) none))))]
def f_law_two_text : Fd := ⟨1, 4, .asg 1 (.join " " (.bin .add (.lst [.str "at"]) (.comp (.bi1 .str (.var 2)) (.name 2) (.seq (.idx (.var 0) (.int 0))) none))) :: f_law_two_text_1⟩
def f_law_moves_text : Fd := ⟨1, 2, [.ret (.join " " (.comp (.bin .add (.bin .add (.bi1 .str (.idx (.var 1) (.int 0))) (.str ":")) (.bi1 .str (.idx (.var 1) (.int 1)))) (.name 1) (.seq (.var 0)) none))]⟩
def f_law_1b_14 : List Sx := [.ite (.cmp .ne (.bi1 .repr (.tup [.var 3, .var 4, .var 5, .var 7])) (.var 8)) [.ret (.bl false)] []]
def f_law_1b_13 : List Sx := .ite (.cmp .ne (.bi1 .repr (.var 9)) (.bi1 .repr (.var 10))) [.ret (.bl false)] [] :: f_law_1b_14
def f_law_1b_12 : List Sx := .asg 10 (.bin .add (.var 10) (.bin .mul (.lst [.call 17 [.var 7] [false] [.e 0]]) (.int 2))) :: f_law_1b_13
def f_law_1b_11 : List Sx := .asg 10 (.bin .add (.bin .add (.var 10) (.bin .mul (.lst [.call 16 [.var 5] [true] [.e 0]]) (.int 2))) (.lst [.call 16 [.var 4] [true] [.e 0]])) :: f_law_1b_12
def f_law_1b_10 : List Sx := .asg 10 (.bin .add (.bin .mul (.lst [.call 15 [.var 3] [true] [.e 0]]) (.int 2)) (.bin .mul (.lst [.call 16 [.var 4] [true] [.e 0]]) (.int 2))) :: f_law_1b_11
def f_law_1b_9 : List Sx := .asg 9 (.bin .add (.var 9) (.lst [.call 5 [.var 7] [false] [.e 0], .call 5 [.var 7] [false] [.e 0]])) :: f_law_1b_10
def f_law_1b_8 : List Sx := .asg 9 (.bin .add (.var 9) (.lst [.call 4 [.var 5] [false] [.e 0], .call 4 [.var 5] [false] [.e 0], .call 4 [.var 4] [false] [.e 0]])) :: f_law_1b_9
def f_law_1b_7 : List Sx := .asg 9 (.lst [.call 0 [.var 3] [true] [.e 0], .call 0 [.var 3] [true] [.e 0], .call 3 [.var 4] [false] [.e 0], .call 3 [.var 4] [false] [.e 0]]) :: f_law_1b_8
def f_law_1b_6 : List Sx := .asg 8 (.bi1 .repr (.tup [.var 3, .var 4, .var 5, .var 7])) :: f_law_1b_7
def f_law_1b_5 : List Sx := .asg 7 (.sl (.bin .mul (.var 7) (.int 25)) none (some (.var 6))) :: f_law_1b_6
def f_law_1b_4 : List Sx := .asg 7 (.comp (.tup [.call 7 [.var 1, .int 5] [true, true] [.e 0, .e 1], .call 7 [.var 1, .int 24] [true, true] [.e 0, .e 1]]) (.name 11) (.rng [.bi2 .min (.var 6) (.int 40)]) none) :: f_law_1b_5
def f_law_1b_3 : List Sx := .asg 6 (.idx (.lst [.call 7 [.var 1, .int 30] [true, true] [.e 0, .e 1], .int 0, .int 1, .int 1000]) (.call 7 [.var 1, .int 4] [true, true] [.e 0, .e 1])) :: f_law_1b_4
def f_law_1b_2 : List Sx := .asg 5 (.call 13 [.var 1, .var 4] [true, true] [.e 0, .e 1]) :: f_law_1b_3
def f_law_1b_1 : List Sx := .asg 4 (.call 12 [.var 1, .var 3] [true, true] [.e 0, .e 1]) :: f_law_1b_2
def f_law_1b : List Sx := .asg 3 (.call 11 [.var 1, .int 12, .int 24] [true, false, false] [.e 0, .e 1, .e 2]) :: f_law_1b_1
def f_law_1 : List Sx := .for (.name 2) (.rng [.int 3]) f_law_1b :: [.ret (.bl true)]
def f_law : Fd := ⟨1, 12, .asg 1 (.call 6 [.var 0] [true] [.e 0]) :: f_law_1⟩
def prog : List Fd := [f_show_web, f_show_owner, f_show_owners, f_show_standing, f_show_wish, f_show_moves, f_law_pen, f_law_draw, f_law_price, f_law_ends, f_law_bars, f_law_web, f_law_standing, f_law_wish, f_law_lord, f_law_web_text, f_law_two_text, f_law_moves_text, f_law]
end Q
namespace Q
open MI PySem PyProof.Rows
variable {fuel : Nat}
/-! ### what the texts are -/
def gateS (g : Int × Int × Int) : Str := Str.join (sT " ") [sT "gate", sI g.1, sI g.2.1, sI g.2.2]
def barS (b : Int × Int) : Str := sT "bar " ++ sI b.1 ++ sT " " ++ sI b.2
def roomsS (r : Int) : Str := sT "rooms " ++ sI r
def webS (r : Int) (gs : List (Int × Int × Int)) (bs : List (Int × Int)) : Str := Str.join (sT "\n") ((roomsS r :: gs.map gateS) ++ bs.map barS)
def ownS : D → Str
  | .none => sT "-"
  | .str _ => sT "?"
  | .int i => sI i
  | _ => Str.empty
def OwnK (d : D) : Prop := d = .none ∨ d = .str (Str.ofString "any") ∨ ∃ i, d = .int i ∧ Sml i
def headS (hs : List Int) : Str := Str.join (sT " ") (sT "at" :: hs.map sI)
def lineS (os : List D) : Str := Str.join (sT " ") (sT "own" :: os.map ownS)
def twoS (hs : List Int) (os : List D) : Str := headS hs ++ sT "\n" ++ lineS os
def moveS (m : Int × Int) : Str := sI m.1 ++ sT ":" ++ sI m.2
def movesS (ms : List (Int × Int)) : Str := Str.join (sT " ") (ms.map moveS)
def barD (b : Int × Int) : D := .tuple [.int b.1, .int b.2]
def posD (hs : List Int) (os : List D) : D := .tuple [.tuple (hs.map .int), .tuple os]
theorem lenI {i : Int} (h : Sml i) : (sI i).length ≤ 11 := (seen_int h.1 h.2).ln
/-- lengths of written texts -/
theorem ln_own : (sT "own ").length = 4 ∧ (sT "rooms ").length = 6 ∧ (sT "gate ").length = 5 ∧ (sT " ").length = 1 ∧ (sT "bar ").length = 4 ∧ (sT ":").length = 1 ∧ Str.empty.length = 0 ∧ (sT "gate").length = 4 ∧ (sT "\n").length = 1 ∧ (sT "at").length = 2 ∧ (sT "own").length = 3 ∧ (sT "-").length = 1 ∧ (sT "?").length = 1 := by decide +kernel
theorem seen_own {d : D} (h : OwnK d) : Seen 11 (ownS d) := by
  rcases h with rfl | rfl | ⟨i, rfl, h⟩
  · exact ⟨by decide +kernel, by decide +kernel, by decide +kernel⟩
  · exact ⟨by decide +kernel, by decide +kernel, by decide +kernel⟩
  · exact seen_int h.1 h.2
def GateK (g : Int × Int × Int) : Prop := Sml g.1 ∧ Sml g.2.1 ∧ Sml g.2.2
def BarK (b : Int × Int) : Prop := Sml b.1 ∧ Sml b.2
theorem plain_gate {g : Int × Int × Int} (h : GateK g) : Plain 60 (gateS g) := by
  refine (Plain.join (n := 11) (k := 1) (plain_of (by decide +kernel) (by decide +kernel)) fun t ht => ?_).mono (by simp)
  rcases List.mem_cons.mp ht with rfl | ht
  · exact plain_of (by decide +kernel) (by decide +kernel)
  · simp at ht
    rcases ht with rfl | rfl | rfl
    · exact (seen_int h.1.1 h.1.2).plain
    · exact (seen_int h.2.1.1 h.2.1.2).plain
    · exact (seen_int h.2.2.1 h.2.2.2).plain
theorem plain_two {a b : Int} {s t : String} (h1 : Sml a) (h2 : Sml b) (hs : Plain 6 (sT s)) (ht : Plain 6 (sT t)) : Plain 60 (sT s ++ sI a ++ sT t ++ sI b) :=
  (((hs.app (seen_int h1.1 h1.2).plain).app ht).app (seen_int h2.1 h2.2).plain).mono (by omega)
theorem plain_bar {b : Int × Int} (h : BarK b) : Plain 60 (barS b) := plain_two h.1 h.2 (plain_of (by decide +kernel) (by decide +kernel)) (plain_of (by decide +kernel) (by decide +kernel))
theorem plain_rooms {r : Int} (h : Sml r) : Plain 60 (roomsS r) := ((plain_of (n := 6) (by decide +kernel) (by decide +kernel)).app (seen_int h.1 h.2).plain).mono (by omega)
theorem plain_move {b : Int × Int} (h : BarK b) : Plain 60 (moveS b) := (((seen_int h.1.1 h.1.2).plain.app (plain_of (n := 6) (by decide +kernel) (by decide +kernel))).app (seen_int h.2.1 h.2.2).plain).mono (by omega)
end Q
namespace Q
open MI PySem PyProof.Rows
variable {fuel : Nat}
theorem gate_len {g : Int × Int × Int} (h : GateK g) : (gateS g).length ≤ 60 := (plain_gate h).ln
theorem web_texts {r : Int} {gs : List (Int × Int × Int)} {bs : List (Int × Int)} (hr : Sml r) (hg : ∀ g ∈ gs, GateK g) (hb : ∀ b ∈ bs, BarK b) : ∀ t ∈ (roomsS r :: gs.map gateS) ++ bs.map barS, Plain 60 t := by
  intro t ht
  rcases List.mem_append.mp ht with h | h
  · rcases List.mem_cons.mp h with rfl | h
    · exact plain_rooms hr
    · obtain ⟨g, hg', rfl⟩ := List.mem_map.mp h
      exact plain_gate (hg g hg')
  · obtain ⟨b, hb', rfl⟩ := List.mem_map.mp h
    exact plain_bar (hb b hb')
theorem show_web_spec {k : Nat} {r : Int} {gs : List (Int × Int × Int)} {bs : List (Int × Int)} (hr : Sml r) (hg : ∀ g ∈ gs, GateK g) (hb : ∀ b ∈ bs, BarK b) (l1 : gs.length ≤ 24) (l2 : bs.length ≤ 200) :
    Ret (run prog fuel (k + 1) 0 [.sh (webD r gs (bs.map barD))]) (fun m fin => m = .sh (.str (webS r gs bs)) ∧ fin = [.sh (webD r gs (bs.map barD))]) := by
  obtain ⟨n1, n2, n3, n4, n5, n6, n7, n8, n9, n10, n11, n12, n13⟩ := ln_own
  refine ret_run (fd := f_show_web) rfl rfl (Nat.le_of_ble_eq_true rfl) rfl ?_
  have lr := lenI hr
  simp [f_show_web, webD, fmt_int hr, strLen_append, n2, n7]
  refine ⟨by omega, ?_⟩
  simp [f_show_web_1]
  refine wp_map gs gateD (fun g => .str (gateS g)) rfl (by show _ ≤ 16777216; omega) (fun g hm => ?_) ?_
  · obtain ⟨h1, h2, h3⟩ := hg g hm
    have := lenI h1
    have := lenI h2
    have := lenI h3
    simp [gateD, wipeE, Tg.vars, Tg.varss, fmt_int h1, fmt_int h2, fmt_int h3, strLen_append, n3, n4, n7, gate_line]
    exact ⟨by omega, by omega, by omega, by omega, by omega, rfl⟩
  · simp
    refine wpO_of (ext_ok (by simp; omega)) ?_
    simp [f_show_web_2]
    refine wp_map bs barD (fun g => .str (barS g)) rfl (by show _ ≤ 16777216; omega) (fun g hm => ?_) ?_
    · obtain ⟨h1, h2⟩ := hb g hm
      have := lenI h1
      have := lenI h2
      simp [barD, wipeE, Tg.vars, Tg.varss, fmt_int h1, fmt_int h2, strLen_append, n5, n4, n7, Str.empty_append]
      exact ⟨by omega, by omega, by omega, rfl⟩
    · simp
      refine wpO_of (ext_ok (by simp; omega)) ?_
      simp
      have e : PyData.str (Str.empty ++ Str.ofString "rooms " ++ sI r) :: (gs.map (fun g => PyData.str (gateS g)) ++ bs.map fun g => PyData.str (barS g)) = ((roomsS r :: gs.map gateS) ++ bs.map barS).map .str := by
        simp [roomsS, Str.empty_append]
        rfl
      refine wpO_of (by rw [e]; exact joinD_ok (n := 60) (fun t ht => (web_texts hr hg hb t ht).ln) (by simp [n9]; omega)) ?_
      simp [webS]
theorem any_any : opCmp .eq (.str (Str.ofString "any")) (.str (Str.ofString "any")) = some true := by decide +kernel
theorem any_int (i : Int) : opCmp .eq (.int i) (.str (Str.ofString "any")) = some false := by
  simp [opCmp, opEq, lensDiffer, okEq, PyData.plain, PyData.depth, PyData.eqv, gd]
theorem owner_spec {k : Nat} {d : D} (h : OwnK d) : Ret (run prog fuel (k + 1) 1 [.sh d]) (fun m fin => m = .sh (.str (ownS d)) ∧ fin = [.sh d]) := by
  refine ret_run (fd := f_show_owner) rfl rfl (Nat.le_of_ble_eq_true rfl) rfl ?_
  simp [f_show_owner]
  rcases h with rfl | rfl | ⟨i, rfl, h⟩
  · simp [isNone, ownS]
  · simp [f_show_owner_1, isNone, any_any, ownS]
  · simp [f_show_owner_1, isNone, any_int, ownS, str_int h]
theorem lord_spec {k : Nat} {d : D} (h : OwnK d) : Ret (run prog fuel (k + 1) 14 [.sh d]) (fun m fin => m = .sh (.str (ownS d)) ∧ fin = [.sh d]) := by
  refine ret_run (fd := f_law_lord) rfl rfl (Nat.le_of_ble_eq_true rfl) rfl ?_
  simp [f_law_lord]
  rcases h with rfl | rfl | ⟨i, rfl, h⟩
  · simp [isNone, ownS]
  · simp [f_law_lord_1, isNone, any_any, ownS]
  · simp [f_law_lord_1, isNone, any_int, ownS, str_int h]
end Q
namespace Q
open MI PySem PyProof.Rows
variable {fuel : Nat}
structure PosK (hs : List Int) (os : List D) : Prop where
  hh : ∀ i ∈ hs, Sml i
  ho : ∀ d ∈ os, OwnK d
  l1 : hs.length ≤ 5
  l2 : os.length ≤ 24
theorem own_texts {os : List D} (h : ∀ d ∈ os, OwnK d) : ∀ t ∈ os.map ownS, Seen 11 t := fun t ht => by
  obtain ⟨d, hd, rfl⟩ := List.mem_map.mp ht
  exact seen_own (h d hd)
theorem owns_ok {os : List D} (h : ∀ d ∈ os, OwnK d) (l : os.length ≤ 24) : joinD (sT " ") (.list ((os.map ownS).map .str)) = some (.val (.str (Str.join (sT " ") (os.map ownS)))) := by
  obtain ⟨n1, n2, n3, n4, _⟩ := ln_own
  exact joinD_ok (n := 11) (fun t ht => (own_texts h t ht).ln) (by rw [List.length_map, n4]; show _ ≤ 16777216; omega)
theorem owns_len {os : List D} (h : ∀ d ∈ os, OwnK d) (l : os.length ≤ 24) : (Str.join (sT " ") (os.map ownS)).length ≤ 288 := by
  have := (Plain.join (n := 11) (k := 1) (sep := sT " ") (plain_of (by decide +kernel) (by decide +kernel)) (ts := os.map ownS) fun t ht => (own_texts h t ht).plain).ln
  rw [List.length_map] at this
  omega
theorem owners_spec {k : Nat} {os : List D} (h : ∀ d ∈ os, OwnK d) (l : os.length ≤ 24) : Ret (run prog fuel (k + 2) 2 [.sh (.tuple os)]) (fun m fin => m = .sh (.str (Str.join (sT " ") (os.map ownS))) ∧ fin = [.sh (.tuple os)]) := by
  refine ret_run (fd := f_show_owners) rfl rfl (Nat.le_of_ble_eq_true rfl) rfl ?_
  simp [f_show_owners]
  have e0 : os = os.map id := by simp
  rw [e0]
  refine wp_map os id (fun d => .str (ownS d)) rfl (by show _ ≤ 16777216; omega) (fun d hd => ?_) ?_
  · simp [wipeE, Tg.vars]
    refine call_sh (ds := [d]) rfl (by simp) (owner_spec (k := k) (h d hd)) ?_
    simp
  · rw [← e0]
    simp
    have e : (os.map fun d => PyData.str (ownS d)) = (os.map ownS).map .str := by rw [List.map_map]; rfl
    refine wpO_of (by rw [e]; exact owns_ok h l) ?_
    simp
theorem head_texts {hs : List Int} (h : ∀ i ∈ hs, Sml i) : ∀ t ∈ sT "at" :: hs.map sI, Seen 11 t := fun t ht => by
  rcases List.mem_cons.mp ht with rfl | ht
  · exact ⟨by decide +kernel, by decide +kernel, by decide +kernel⟩
  · obtain ⟨i, hi, rfl⟩ := List.mem_map.mp ht
    exact seen_int (h i hi).1 (h i hi).2
theorem head_ok {hs : List Int} (h : ∀ i ∈ hs, Sml i) (l : hs.length ≤ 5) : joinD (sT " ") (.list ((sT "at" :: hs.map sI).map .str)) = some (.val (.str (headS hs))) := by
  obtain ⟨n1, n2, n3, n4, _⟩ := ln_own
  exact joinD_ok (n := 11) (fun t ht => (head_texts h t ht).ln) (by rw [List.length_cons, List.length_map, n4]; show _ ≤ 16777216; omega)
theorem head_plain {hs : List Int} (h : ∀ i ∈ hs, Sml i) (l : hs.length ≤ 5) : Plain 100 (headS hs) := by
  refine (Plain.join (n := 11) (k := 1) (sep := sT " ") (plain_of (by decide +kernel) (by decide +kernel)) (ts := sT "at" :: hs.map sI) fun t ht => (head_texts h t ht).plain).mono ?_
  rw [List.length_cons, List.length_map]
  omega
theorem line_texts {os : List D} (h : ∀ d ∈ os, OwnK d) : ∀ t ∈ sT "own" :: os.map ownS, Seen 11 t := fun t ht => by
  rcases List.mem_cons.mp ht with rfl | ht
  · exact ⟨by decide +kernel, by decide +kernel, by decide +kernel⟩
  · exact own_texts h t ht
theorem line_ok {os : List D} (h : ∀ d ∈ os, OwnK d) (l : os.length ≤ 24) : joinD (sT " ") (.list ((sT "own" :: os.map ownS).map .str)) = some (.val (.str (lineS os))) := by
  obtain ⟨n1, n2, n3, n4, _⟩ := ln_own
  exact joinD_ok (n := 11) (fun t ht => (line_texts h t ht).ln) (by rw [List.length_cons, List.length_map, n4]; show _ ≤ 16777216; omega)
theorem line_plain {os : List D} (h : ∀ d ∈ os, OwnK d) (l : os.length ≤ 24) : Plain 400 (lineS os) := by
  refine (Plain.join (n := 11) (k := 1) (sep := sT " ") (plain_of (by decide +kernel) (by decide +kernel)) (ts := sT "own" :: os.map ownS) fun t ht => (line_texts h t ht).plain).mono ?_
  rw [List.length_cons, List.length_map]
  omega
theorem two_plain {hs : List Int} {os : List D} (P : PosK hs os) : Plain 600 (twoS hs os) :=
  (((head_plain P.hh P.l1).app (plain_of (n := 1) (by decide +kernel) (by decide +kernel))).app (line_plain P.ho P.l2)).mono (by omega)
theorem show_standing_spec {k : Nat} {hs : List Int} {os : List D} (P : PosK hs os) : Ret (run prog fuel (k + 3) 3 [.sh (posD hs os)]) (fun m fin => m = .sh (.str (twoS hs os)) ∧ fin = [.sh (posD hs os)]) := by
  obtain ⟨n1, n2, n3, n4, n5, n6, n7, n8, n9, n10, n11, n12, n13⟩ := ln_own
  have lh := (head_plain P.hh P.l1).ln
  have ll := (line_plain P.ho P.l2).ln
  have lo := owns_len P.ho P.l2
  have l1 := P.l1
  refine ret_run (fd := f_show_standing) rfl rfl (Nat.le_of_ble_eq_true rfl) rfl ?_
  simp [f_show_standing, posD]
  simp [f_show_standing_1]
  refine wp_map hs .int (fun i => .str (sI i)) rfl (by show _ ≤ 16777216; omega) (fun i hi => ?_) ?_
  · simp [wipeE, Tg.vars, str_int (P.hh i hi)]
  · simp
    refine ⟨by omega, ?_⟩
    have e : PyData.str (Str.ofString "at") :: (hs.map fun i => PyData.str (sI i)) = (sT "at" :: hs.map sI).map .str := by
      rw [List.map_cons, List.map_map]; rfl
    refine wpO_of (by rw [e]; exact head_ok P.hh P.l1) ?_
    simp [n1, n7, strLen_append]
    refine call_sh (ds := [.tuple os]) rfl (by simp) (owners_spec (k := k) P.ho P.l2) ?_
    simp [fmt_str (show (Str.join (sT " ") (os.map ownS)).length ≤ 16777216 by omega), strLen_append, n1, n7]
    refine ⟨by omega, ?_⟩
    refine wpO_of (rstrip_str (by rw [strLen_append, strLen_append, n1, n7]; show _ ≤ 16777216; omega)) ?_
    rw [own_line (n := 11) (own_texts P.ho)]
    simp
    have e2 : [PyData.str (headS hs), PyData.str (Str.join (sT " ") (sT "own" :: os.map ownS))] = [headS hs, lineS os].map .str := rfl
    refine wpO_of (by rw [e2]; exact joinD_ok (n := 1000) (by simp; exact ⟨by omega, by omega⟩) (by rw [n9]; show 2 * 1000 + 2 * 1 ≤ 16777216; omega)) ?_
    simp [twoS, join_two]
theorem show_wish_spec {k : Nat} {hs : List Int} {os : List D} (P : PosK hs os) : Ret (run prog fuel (k + 4) 4 [.sh (posD hs os)]) (fun m fin => m = .sh (.str (twoS hs os)) ∧ fin = [.sh (posD hs os)]) := by
  refine ret_run (fd := f_show_wish) rfl rfl (Nat.le_of_ble_eq_true rfl) rfl ?_
  simp [f_show_wish]
  refine call_sh (ds := [posD hs os]) rfl (by simp) (show_standing_spec (k := k) P) ?_
  simp
end Q
namespace Q
open MI PySem PyProof.Rows
variable {fuel : Nat}
theorem moves_ok {ms : List (Int × Int)} (h : ∀ m ∈ ms, BarK m) (l : ms.length ≤ 1000) : joinD (sT " ") (.list ((ms.map moveS).map .str)) = some (.val (.str (movesS ms))) := by
  obtain ⟨n1, n2, n3, n4, _⟩ := ln_own
  exact joinD_ok (n := 60) (fun t ht => by obtain ⟨m, hm, rfl⟩ := List.mem_map.mp ht; exact (plain_move (h m hm)).ln) (by rw [List.length_map, n4]; show _ ≤ 16777216; omega)
theorem moves_plain {ms : List (Int × Int)} (h : ∀ m ∈ ms, BarK m) (l : ms.length ≤ 1000) : Plain 61000 (movesS ms) := by
  refine (Plain.join (n := 60) (k := 1) (sep := sT " ") (plain_of (by decide +kernel) (by decide +kernel)) (ts := ms.map moveS) fun t ht => by obtain ⟨m, hm, rfl⟩ := List.mem_map.mp ht; exact plain_move (h m hm)).mono ?_
  rw [List.length_map]
  omega
theorem web_plain {r : Int} {gs : List (Int × Int × Int)} {bs : List (Int × Int)} (hr : Sml r) (hg : ∀ g ∈ gs, GateK g) (hb : ∀ b ∈ bs, BarK b) (l1 : gs.length ≤ 24) (l2 : bs.length ≤ 200) : Plain 61000 (webS r gs bs) := by
  refine (Plain.join (n := 60) (k := 1) (sep := sT "\n") (plain_of (by decide +kernel) (by decide +kernel)) (web_texts hr hg hb)).mono ?_
  simp
  omega
theorem show_moves_spec {k : Nat} {ms : List (Int × Int)} (h : ∀ m ∈ ms, BarK m) (l : ms.length ≤ 1000) : Ret (run prog fuel (k + 1) 5 [.sh (.list (ms.map barD))]) (fun m fin => m = .sh (.str (movesS ms)) ∧ fin = [.sh (.list (ms.map barD))]) := by
  obtain ⟨n1, n2, n3, n4, n5, n6, n7, n8, n9, n10, n11, n12, n13⟩ := ln_own
  refine ret_run (fd := f_show_moves) rfl rfl (Nat.le_of_ble_eq_true rfl) rfl ?_
  simp [f_show_moves]
  refine wp_map ms barD (fun m => .str (moveS m)) rfl (by show _ ≤ 16777216; omega) (fun m hm => ?_) ?_
  · obtain ⟨h1, h2⟩ := h m hm
    have := lenI h1
    have := lenI h2
    simp [barD, wipeE, Tg.vars, Tg.varss, fmt_int h1, fmt_int h2, strLen_append, n6, n7, Str.empty_append]
    exact ⟨by omega, by omega, by omega, rfl⟩
  · simp
    have e : (ms.map fun m => PyData.str (moveS m)) = (ms.map moveS).map .str := by rw [List.map_map]; rfl
    refine wpO_of (by rw [e]; exact moves_ok h l) ?_
    simp
theorem moves_text_spec {k : Nat} {ms : List (Int × Int)} (h : ∀ m ∈ ms, BarK m) (l : ms.length ≤ 1000) : Ret (run prog fuel (k + 1) 17 [.sh (.list (ms.map barD))]) (fun m fin => m = .sh (.str (movesS ms)) ∧ fin = [.sh (.list (ms.map barD))]) := by
  obtain ⟨n1, n2, n3, n4, n5, n6, n7, n8, n9, n10, n11, n12, n13⟩ := ln_own
  refine ret_run (fd := f_law_moves_text) rfl rfl (Nat.le_of_ble_eq_true rfl) rfl ?_
  simp [f_law_moves_text]
  refine wp_map ms barD (fun m => .str (moveS m)) rfl (by show _ ≤ 16777216; omega) (fun m hm => ?_) ?_
  · obtain ⟨h1, h2⟩ := h m hm
    have := lenI h1
    have := lenI h2
    simp [barD, wipeE, Tg.vars, Tg.varss, str_int h1, str_int h2]
    refine wpO_of (add_str (by rw [n6]; show _ ≤ 16777216; omega)) ?_
    simp
    refine wpO_of (add_str (by rw [strLen_append, n6]; show _ ≤ 16777216; omega)) ?_
    simp [moveS]
  · simp
    have e : (ms.map fun m => PyData.str (moveS m)) = (ms.map moveS).map .str := by rw [List.map_map]; rfl
    refine wpO_of (by rw [e]; exact moves_ok h l) ?_
    simp
theorem two_text_spec {k : Nat} {hs : List Int} {os : List D} (P : PosK hs os) : Ret (run prog fuel (k + 2) 16 [.sh (posD hs os)]) (fun m fin => m = .sh (.str (twoS hs os)) ∧ fin = [.sh (posD hs os)]) := by
  obtain ⟨n1, n2, n3, n4, n5, n6, n7, n8, n9, n10, n11, n12, n13⟩ := ln_own
  have lh := (head_plain P.hh P.l1).ln
  have ll := (line_plain P.ho P.l2).ln
  have l1 := P.l1
  have l2 := P.l2
  refine ret_run (fd := f_law_two_text) rfl rfl (Nat.le_of_ble_eq_true rfl) rfl ?_
  simp [f_law_two_text, posD]
  refine wp_map hs .int (fun i => .str (sI i)) rfl (by show _ ≤ 16777216; omega) (fun i hi => ?_) ?_
  · simp [wipeE, Tg.vars, str_int (P.hh i hi)]
  · simp
    have e : PyData.str (Str.ofString "at") :: (hs.map fun i => PyData.str (sI i)) = (sT "at" :: hs.map sI).map .str := by
      rw [List.map_cons, List.map_map]; rfl
    refine ⟨by omega, ?_⟩
    refine wpO_of (by rw [e]; exact head_ok P.hh P.l1) ?_
    simp [f_law_two_text_1]
    refine wpO_of (add_str (by rw [n9]; show _ ≤ 16777216; omega)) ?_
    simp
    have e0 : os = os.map id := by simp
    rw [e0]
    refine wp_map os id (fun d => .str (ownS d)) rfl (by show _ ≤ 16777216; omega) (fun d hd => ?_) ?_
    · simp [wipeE, Tg.vars]
      refine call_sh (ds := [d]) rfl (by simp) (lord_spec (k := k) (P.ho d hd)) ?_
      simp
    · rw [← e0]
      simp
      refine ⟨by omega, ?_⟩
      have e2 : PyData.str (Str.ofString "own") :: (os.map fun d => PyData.str (ownS d)) = (sT "own" :: os.map ownS).map .str := by
        rw [List.map_cons, List.map_map]; rfl
      refine wpO_of (by rw [e2]; exact line_ok P.ho P.l2) ?_
      simp
      refine wpO_of (add_str (by rw [strLen_append, n9]; show _ ≤ 16777216; omega)) ?_
      simp [twoS]
theorem web_text_spec {k : Nat} {r : Int} {gs : List (Int × Int × Int)} {bs : List (Int × Int)} (hr : Sml r) (hg : ∀ g ∈ gs, GateK g) (hb : ∀ b ∈ bs, BarK b) (l1 : gs.length ≤ 24) (l2 : bs.length ≤ 200) :
    Ret (run prog fuel (k + 1) 15 [.sh (webD r gs (bs.map barD))]) (fun m fin => m = .sh (.str (webS r gs bs)) ∧ fin = [.sh (webD r gs (bs.map barD))]) := by
  obtain ⟨n1, n2, n3, n4, n5, n6, n7, n8, n9, n10, n11, n12, n13⟩ := ln_own
  have lr := lenI hr
  refine ret_run (fd := f_law_web_text) rfl rfl (Nat.le_of_ble_eq_true rfl) rfl ?_
  simp [f_law_web_text, webD, str_int hr]
  refine wpO_of (add_str (by rw [n2]; show _ ≤ 16777216; omega)) ?_
  simp [f_law_web_text_1]
  refine wp_forL (fun i ρ => ∃ x2, ρ = [some (.sh (.tuple [.int r, .tuple (gs.map gateD), .tuple (bs.map barD)])), some (.ol false ((roomsS r :: (gs.take i).map gateS).map .str)), x2, none] ∧ Lo x2) ⟨none, rfl, .inl rfl⟩ ?_ ?_
  · rintro i d ρ hd ⟨x2, rfl, y2⟩
    rw [List.getElem?_map, Option.map_eq_some_iff] at hd
    obtain ⟨g, eg, rfl⟩ := hd
    obtain ⟨h1, h2, h3⟩ := hg g (List.mem_of_getElem? eg)
    have := lenI h1
    have := lenI h2
    have := lenI h3
    have ht : ∀ t ∈ [sT "gate", sI g.1, sI g.2.1, sI g.2.2], t.length ≤ 11 := by
      intro t ht
      simp at ht
      rcases ht with rfl | rfl | rfl | rfl <;> omega
    simp [gateD, y2.free, f_law_web_text_1b, str_int h1, str_int h2, str_int h3]
    have e : [PyData.str (Str.ofString "gate"), PyData.str (sI g.1), PyData.str (sI g.2.1), PyData.str (sI g.2.2)] = [sT "gate", sI g.1, sI g.2.1, sI g.2.2].map .str := rfl
    refine wpO_of (by rw [e]; exact joinD_ok (n := 11) ht (by rw [n4]; show 4 * 11 + 4 * 1 ≤ 16777216; omega)) ?_
    simp
    have hlt : i < gs.length := (List.getElem?_eq_some_iff.mp eg).1
    refine ⟨by omega, ?_⟩
    show ∃ _, _
    refine ⟨some (.sh (gateD g)), ?_, .sh _⟩
    simp [List.take_add_one, List.getElem?_map, eg, gateD, gateS]
  · rintro ρ ⟨x2, rfl, y2⟩
    simp only [List.length_map, List.take_length]
    simp [f_law_web_text_2]
    refine wp_forL (fun i ρ => ∃ x2 x3, ρ = [some (.sh (.tuple [.int r, .tuple (gs.map gateD), .tuple (bs.map barD)])), some (.ol false ((roomsS r :: gs.map gateS ++ (bs.take i).map barS).map .str)), x2, x3] ∧ Lo x2 ∧ Lo x3) ⟨x2, none, by simp, y2, .inl rfl⟩ ?_ ?_
    · rintro i d ρ hd ⟨x2, x3, rfl, y2, y3⟩
      rw [List.getElem?_map, Option.map_eq_some_iff] at hd
      obtain ⟨b, eb, rfl⟩ := hd
      obtain ⟨h1, h2⟩ := hb b (List.mem_of_getElem? eb)
      have := lenI h1
      have := lenI h2
      have hlt : i < bs.length := (List.getElem?_eq_some_iff.mp eb).1
      simp [barD, y2.free, y3.free, f_law_web_text_2b, str_int h1, str_int h2]
      refine wpO_of (add_str (by rw [n5]; show _ ≤ 16777216; omega)) ?_
      simp
      refine wpO_of (add_str (by rw [strLen_append, n5, n4]; show _ ≤ 16777216; omega)) ?_
      simp
      refine wpO_of (add_str (by rw [strLen_append, strLen_append, n5, n4]; show _ ≤ 16777216; omega)) ?_
      simp
      refine ⟨by omega, ?_⟩
      show ∃ _ _, _
      refine ⟨some (.sh (.int b.2)), some (.sh (.int b.1)), ?_, .sh _, .sh _⟩
      simp [List.take_add_one, List.getElem?_map, eb, barS]
    · rintro ρ ⟨x2, x3, rfl, y2, y3⟩
      simp only [List.length_map, List.take_length]
      simp
      have e : PyData.str (roomsS r) :: (gs.map (PyData.str ∘ gateS) ++ bs.map (PyData.str ∘ barS)) = ((roomsS r :: gs.map gateS) ++ bs.map barS).map .str := by simp
      refine wpO_of (by rw [e]; exact joinD_ok (n := 60) (fun t ht => (web_texts hr hg hb t ht).ln) (by simp [n9]; omega)) ?_
      simp [webS]
end Q
namespace Q
open MI PySem PyProof.Rows
variable {fuel : Nat}
theorem at2' {a b : D} {v : Int} (h0 : 0 ≤ v) (h1 : v < 2) : atD [a, b] v = some a ∨ atD [a, b] v = some b := by
  have : v = 0 ∨ v = 1 := by omega
  rcases this with rfl | rfl <;> simp
theorem bars_typed {n : Int} {ds : List D} (h : BarsA n ds) (hn : n ≤ 24) : ∃ bs : List (Int × Int), ds = bs.map barD ∧ ∀ b ∈ bs, BarK b := by
  refine exL (P := BarK) fun x hx => ?_
  obtain ⟨a, b, e, a0, a1, b0, b1⟩ := h x hx
  exact ⟨(a, b), e, ⟨by omega, by omega⟩, ⟨by omega, by omega⟩⟩
theorem own_k {n : Nat} (l : n ≤ 5) {ls : List (Option Nat)} (h : ∀ o ∈ ls, ∀ v, o = some v → v < n) : ∀ d ∈ ls.map ownD, OwnK d := fun d hd => by
  obtain ⟨o, ho, rfl⟩ := List.mem_map.mp hd
  cases o with
  | none => exact .inl rfl
  | some v =>
    have := h _ ho v rfl
    exact .inr (.inr ⟨v, rfl, by omega, by omega⟩)
theorem wish_spec {k : Nat} (cells : List Int) {at_ g : Int} {hs : List Int} {os : List D} (P : PosK hs os) (h3 : 0 ≤ at_) (h4 : at_ + 100 < 1000000) (h5 : 0 ≤ g) :
    Ret (run prog fuel (k + 2) 13 (.ol true (pen cells at_ g) :: ([posD hs os] : List D).map .sh)) (PenQ cells at_ 30 (fun m => ∃ os2, m = .sh (posD hs os2) ∧ PosK hs os2) (([posD hs os] : List D).map .sh)) := by
  have l2 := P.l2
  refine ret_run (fd := f_law_wish) rfl rfl (Nat.le_of_ble_eq_true rfl) rfl ?_
  simp [f_law_wish, posD]
  refine w_drawA rfl rfl (by omega) (by omega) h3 (by omega) h5 fun v1 a1 g1 u1 u2 u3 u4 u5 => ?_
  simp [f_law_wish_1]
  simp [f_law_wish_2]
  refine wp_forL (fun j ρ => ∃ a g ds x4, ρ = [some (.ol true (pen cells a g)), some (.sh (.tuple [.tuple (hs.map .int), .tuple os])), some (.sh (.int v1)), some (.ol false ds), x4] ∧ a1 ≤ a ∧ a ≤ a1 + j ∧ 0 ≤ g ∧ ds.length = j ∧ (∀ x ∈ ds, OwnK x) ∧ Lo x4)
    ⟨a1, g1, [], none, rfl, by omega, by omega, u5, rfl, (fun _ h => by cases h), .inl rfl⟩ ?_ ?_
  · rintro j d ρ hd ⟨a, g, ds, x4, rfl, b1, b2, b3, b4, b5, b6⟩
    have hj : j < os.length := (List.getElem?_eq_some_iff.mp hd).1
    have hk : OwnK d := P.ho d (List.mem_of_getElem? hd)
    simp [b6.free, f_law_wish_2b]
    refine w_drawA rfl rfl (by omega) (by omega) (by omega) (by omega) b3 fun v3 a6 g6 p1 p2 p3 p4 p5 => ?_
    simp
    have pick : ∃ x, atD [d, .str (Str.ofString "any")] (if v3 < v1 then 1 else 0) = some x ∧ OwnK x := by
      split
      · exact ⟨_, by simp, .inr (.inl rfl)⟩
      · exact ⟨_, by simp, hk⟩
    obtain ⟨x, ex, hx⟩ := pick
    simp [ex]
    have l5 : ds.length < 16777216 := by omega
    refine ⟨l5, ?_⟩
    show ∃ _, _
    exact ⟨a6, g6, ds ++ [x], _, rfl, by omega, by omega, p5, by simp [b4], app_all (P := OwnK) b5 fun z hz => by rw [List.mem_singleton.mp hz]; exact hx, .sh _⟩
  · rintro ρ ⟨a, g, ds, x4, rfl, b1, b2, b3, b4, b5, b6⟩
    simp
    exact penq (by omega) (by omega) b3 ⟨ds, rfl, P.hh, b5, P.l1, by omega⟩
/-- the moves that are drawn -/
theorem mul_lst {xs : List D} {n : Nat} (h : xs.length * n ≤ 16777216) (hn : n < 1000000) : opBin .mul (.list xs) (.int n) = some (.new (List.replicate n xs).flatten) := by
  show gd _ _ = _
  have e : ((n : Int)).toNat = n := rfl
  rw [e]
  unfold gd
  rw [if_pos]
  simp only [Bool.and_eq_true, decide_eq_true_eq]
  refine ⟨?_, h⟩
  have : (n : Int).natAbs = n := rfl
  rw [this]
  have : (1000000 : Nat) < 2 ^ 62 := by decide
  omega
theorem flat_map {α : Type} (f : α → D) (ms : List α) (n : Nat) : (List.replicate n (ms.map f)).flatten = ((List.replicate n ms).flatten).map f := by
  induction n with
  | zero => rfl
  | succ n ih => rw [List.replicate_succ, List.replicate_succ, List.flatten_cons, List.flatten_cons, List.map_append, ih]
def FrK (x : Option M) : Prop := Lo x ∨ ∃ l, x = some (.ol false l)
theorem FrK.free {x : Option M} (h : FrK x) (ρ : MI.Env) : MI.free (x :: ρ) 0 = true := by
  rcases h with h | ⟨l, rfl⟩
  · exact h.free ρ
  · simp
theorem FrK.lo {x : Option M} (h : Lo x) : FrK x := .inl h
theorem FrK.ol (l : List D) : FrK (some (.ol false l)) := .inr ⟨l, rfl⟩
theorem an_any : An true 1 0 (.str (Str.ofString "any")) := ⟨by decide +kernel, by decide +kernel, by decide +kernel, by decide +kernel⟩
theorem an_own {d : D} (h : OwnK d) : An true 1 0 d := by
  rcases h with rfl | rfl | ⟨i, rfl, h0, h1⟩
  · exact .non true
  · exact an_any
  · exact .int true (by omega)
theorem ans_all {c k : Nat} : ∀ {xs : List D}, (∀ x ∈ xs, An true c k x) → Ans true (xs.length * c) k xs
  | [], _ => Ans.nil.mono (by simp) (Nat.zero_le _)
  | x :: xs, h => by
    refine (Ans.cons (h x List.mem_cons_self) (ans_all fun y hy => h y (List.mem_cons_of_mem _ hy))).mono ?_ (by omega)
    simp only [List.length_cons, Nat.add_mul, Nat.one_mul]
    omega
theorem an_pos {hs : List Int} {os : List D} (P : PosK hs os) : An true 100 2 (posD hs os) := by
  have l1 := P.l1
  have l2 := P.l2
  have a1 : An true 6 1 (.tuple (hs.map .int)) := (An.tup (ans_all (c := 1) (k := 0) fun x hx => by
    obtain ⟨i, hi, rfl⟩ := List.mem_map.mp hx
    have := P.hh i hi
    exact .int true (by omega))).mono (by rw [List.length_map]; omega) (by omega)
  have a2 : An true 25 1 (.tuple os) := (An.tup (ans_all (c := 1) (k := 0) fun x hx => an_own (P.ho x hx))).mono (by omega) (by omega)
  exact (An.tup (Ans.cons a1 (Ans.cons a2 .nil))).mono (by omega) (by omega)
theorem an_bar {b : Int × Int} (h : BarK b) : An true 3 1 (barD b) := (An.tup (Ans.cons (An.int true (i := b.1) (by have := h.1; omega)) (Ans.cons (An.int true (i := b.2) (by have := h.2; omega)) .nil))).mono (by omega) (by omega)
theorem an_gate {g : Int × Int × Int} (h : GateK g) : An true 4 1 (gateD g) := (An.tup (Ans.cons (An.int true (i := g.1) (by have := h.1; omega)) (Ans.cons (An.int true (i := g.2.1) (by have := h.2.1; omega)) (Ans.cons (An.int true (i := g.2.2) (by have := h.2.2; omega)) .nil)))).mono (by omega) (by omega)
theorem an_web {r : Int} {gs : List (Int × Int × Int)} {bs : List (Int × Int)} (hr : Sml r) (hg : ∀ g ∈ gs, GateK g) (hb : ∀ b ∈ bs, BarK b) (l1 : gs.length ≤ 24) (l2 : bs.length ≤ 200) : An true 1000 3 (webD r gs (bs.map barD)) := by
  have a1 : An true 100 2 (.tuple (gs.map gateD)) := (An.tup (ans_all (c := 4) (k := 1) fun x hx => by obtain ⟨g, hg', rfl⟩ := List.mem_map.mp hx; exact an_gate (hg g hg'))).mono (by rw [List.length_map]; omega) (by omega)
  have a2 : An true 700 2 (.tuple (bs.map barD)) := (An.tup (ans_all (c := 3) (k := 1) fun x hx => by obtain ⟨g, hg', rfl⟩ := List.mem_map.mp hx; exact an_bar (hb g hg'))).mono (by rw [List.length_map]; omega) (by omega)
  exact (An.tup (Ans.cons (An.int true (i := r) (by omega)) (Ans.cons a1 (Ans.cons a2 .nil)))).mono (by omega) (by omega)
theorem an_steps {ms : List (Int × Int)} (h : ∀ m ∈ ms, BarK m) (l : ms.length ≤ 1000) : An true 4000 2 (.list (ms.map barD)) := (An.lst (ans_all (c := 3) (k := 1) fun x hx => by obtain ⟨g, hg', rfl⟩ := List.mem_map.mp hx; exact an_bar (h g hg'))).mono (by rw [List.length_map]; omega) (by omega)
end Q
namespace Q
open MI PySem PyProof.Rows
variable {fuel : Nat}
theorem mul2 (x : D) : opBin .mul (.list [x]) (.int 2) = some (.new [x, x]) := by simpa [List.replicate_succ] using mul_lst (xs := [x]) (n := 2) (by simp) (by omega)
def IsBar (x : D) : Prop := ∃ b, x = barD b ∧ BarK b
theorem law_ok (k : Nat) (ns : List Int) : Ret (run prog fuel (k + 5) 18 [.sc ns]) (fun m fin => m = .sh (.bool true)) := by
  refine ret_run (fd := f_law) rfl rfl (by decide) rfl ?_
  simp [f_law]
  refine w_penA rfl ?_
  simp [f_law_1]
  refine ⟨by decide, ?_⟩
  refine wp_forL (fun i ρ => ∃ a g x2 x3 x4 x5 x6 x7 x8 x9 x10, ρ = [some (.sc ns), some (.ol false (pen (ns.take 63) a g)), x2, x3, x4, x5, x6, x7, x8, x9, x10, none] ∧ 0 ≤ a ∧ a ≤ 2000 * i ∧ 0 ≤ g ∧ FrK x2 ∧ FrK x3 ∧ FrK x4 ∧ FrK x5 ∧ FrK x6 ∧ FrK x7 ∧ FrK x8 ∧ FrK x9 ∧ FrK x10)
    ⟨0, 0, none, none, none, none, none, none, none, none, none, rfl, by omega, by omega, by omega, .lo (.inl rfl), .lo (.inl rfl), .lo (.inl rfl), .lo (.inl rfl), .lo (.inl rfl), .lo (.inl rfl), .lo (.inl rfl), .lo (.inl rfl), .lo (.inl rfl)⟩ ?_ ?_
  · rintro i d ρ hd ⟨a, g, x2, x3, x4, x5, x6, x7, x8, x9, x10, rfl, c1, c2, c3, y2, y3, y4, y5, y6, y7, y8, y9, y10⟩
    obtain ⟨hi, rfl⟩ := rngD_get hd
    have hi3 : i < 3 := hi
    generalize hcell : ns.take 63 = cells
    simp [f_law_1b, y2.free]
    refine call_pen (ds := [.int 12, .int 24]) (n := 1000) rfl rfl (by simp) (web_specA (prog := prog) (fuel := fuel) (k := k + 1) (f := 11) (mr := 12) (mg := 24) (at_ := a) (g := g) (id := 7) (ie := 9) (ip := 8) (ib := 10) rfl rfl rfl rfl rfl cells c1 (by omega) c3 (by omega) (by omega) (by omega) (by omega)) fun m a1 g1 ⟨net, e1, W1⟩ u1 u2 u3 => ?_
    subst e1
    obtain ⟨r, gs, bars, en, r0, r1, gl, hgs, hbars, bl⟩ := id W1.ex
    subst en
    have gl : gs.length ≤ 24 := gl
    obtain ⟨bs, rfl, hb⟩ := bars_typed hbars (by omega)
    rw [List.length_map] at bl
    have hr : Sml r := ⟨by omega, by omega⟩
    have hg : ∀ g ∈ gs, GateK g := fun g hg' => by
      obtain ⟨q1, q2, q3, q4, q5, q6⟩ := hgs g hg'
      exact ⟨⟨by omega, by omega⟩, ⟨by omega, by omega⟩, ⟨by omega, by omega⟩⟩
    simp [y3.free, f_law_1b_1]
    refine call_pen (ds := [webD r gs (bs.map barD)]) (n := 80) rfl rfl (by simp) (standing_specA (prog := prog) (fuel := fuel) (k := k + 2) (f := 12) (i := 7) (at_ := a1) (g := g1) rfl rfl cells (by omega) (by omega) u3 r0 r1 gl) fun m a2 g2 ⟨hs, ls, e2, SA⟩ v1 v2 v3 => ?_
    subst e2
    have w1 := SA.w1
    have P : PosK hs (ls.map ownD) := ⟨fun j hj => by have := SA.hh j hj; exact ⟨by omega, by omega⟩, own_k w1 SA.hl, w1, by rw [List.length_map, SA.ln]; exact gl⟩
    have es : standD hs ls = posD hs (ls.map ownD) := rfl
    rw [es]
    generalize ls.map ownD = os at P
    simp [y4.free, f_law_1b_2]
    refine call_pen (ds := [posD hs os]) (n := 30) rfl rfl (by simp) (wish_spec (fuel := fuel) (k := k + 2) (at_ := a2) (g := g2) cells P (by omega) (by omega) v3) fun m a3 g3 ⟨os2, e3, P2⟩ t1 t2 t3 => ?_
    subst e3
    simp [y5.free, f_law_1b_3]
    refine w_drawA rfl rfl (by omega) (by omega) (by omega) (by omega) t3 fun v4 a4 g4 z1 z2 z3 z4 z5 => ?_
    simp
    refine w_drawA rfl rfl (by omega) (by omega) (by omega) (by omega) z5 fun v5 a5 g5 s1 s2 s3 s4 s5 => ?_
    simp
    have hn : ∃ n : Nat, atD [PyData.int v4, PyData.int 0, PyData.int 1, PyData.int 1000] v5 = some (.int n) ∧ n ≤ 1000 := by
      rcases at4 (a := .int v4) (b := .int 0) (c := .int 1) (d := .int 1000) s1 s2 with e | e | e | e
      · exact ⟨v4.toNat, by rw [e]; congr 2; omega, by omega⟩
      · exact ⟨0, e, by omega⟩
      · exact ⟨1, e, by omega⟩
      · exact ⟨1000, e, by omega⟩
    obtain ⟨n, en, n1⟩ := hn
    simp [en, y6.free, f_law_1b_4]
    obtain ⟨N, eN, hN⟩ : ∃ N : Nat, (if (40 : Int) < n then (40 : Int) else n) = N ∧ N ≤ 40 := by
      split
      · exact ⟨40, rfl, by omega⟩
      · exact ⟨n, rfl, by omega⟩
    rw [eN]
    refine ⟨small_of (by omega) (by omega), rfl, ?_⟩
    refine wp_compL (fun j acc ρ => ∃ a6 g6 x11, ρ = [some (.sc ns), some (.ol false (pen cells a6 g6)), some (.sh (.int i)), some (.sh (webD r gs (bs.map barD))), some (.sh (posD hs os)), some (.sh (posD hs os2)), some (.sh (.int n)), x7, x8, x9, x10, x11] ∧ a5 ≤ a6 ∧ a6 ≤ a5 + 2 * j ∧ 0 ≤ g6 ∧ acc.length = j ∧ ∀ x ∈ acc, IsBar x)
      ⟨a5, g5, none, rfl, by omega, by omega, s5, rfl, fun _ h => by cases h⟩ ?_ ?_
    · rintro j d acc ρ hd' ⟨a6, g6, x11, rfl, q1, q2, q3, q4, q5⟩
      obtain ⟨hj, rfl⟩ := rngD_get hd'
      have hj : j < N := by simpa using hj
      simp [wipeE, Tg.vars]
      refine w_drawA rfl rfl (by omega) (by omega) (by omega) (by omega) q3 fun p1 a7 g7 p2 p3 p4 p5 p6 => ?_
      simp
      refine w_drawA rfl rfl (by omega) (by omega) (by omega) (by omega) p6 fun o1 a8 g8 o2 o3 o4 o5 o6 => ?_
      simp
      have l5 : acc.length < 16777216 := by omega
      refine ⟨l5, a8, g8, ⟨_, rfl⟩, by omega, by omega, o6, by simp [q4], app_all (P := IsBar) q5 fun x hx => ?_⟩
      rw [List.mem_singleton.mp hx]
      exact ⟨(p1, o1), rfl, ⟨by omega, by omega⟩, ⟨by omega, by omega⟩⟩
    · rintro acc ρ ⟨a6, g6, x11, rfl, q1, q2, q3, q4, q5⟩
      rw [rngD_len] at q2 q4
      have q4 : acc.length = N := by simpa using q4
      have q2 : a6 ≤ a5 + 2 * N := by simpa using q2
      obtain ⟨ms, rfl, hms⟩ := exL (f := barD) (P := BarK) q5
      rw [List.length_map] at q4
      simp [backE, Tg.vars, y7.free, f_law_1b_5]
      refine wpO_of (mul_lst (n := 25) (by rw [List.length_map]; omega) (by omega)) ?_
      rw [flat_map]
      have hbig : ∀ m ∈ (List.replicate 25 ms).flatten, BarK m := fun m hm => by
        obtain ⟨l, hl, hm'⟩ := List.mem_flatten.mp hm
        rw [List.eq_of_mem_replicate hl] at hm'
        exact hms m hm'
      generalize (List.replicate 25 ms).flatten = big at hbig
      simp
      obtain ⟨ss, ess, lss, hss⟩ : ∃ ss : List (Int × Int), cutL (big.map barD) none (some (n : Int)) = ss.map barD ∧ ss.length ≤ 1000 ∧ ∀ m ∈ ss, BarK m := by
        refine ⟨big.take (min n big.length), ?_, by rw [List.length_take]; omega, fun m hm => hbig m (List.mem_of_mem_take hm)⟩
        simp only [cutL, slIx]
        rw [if_neg (by omega)]
        simp
      rw [ess]
      have lb : bs.length ≤ 200 := by omega
      have A0 : An true 8000 10 (.tuple [webD r gs (bs.map barD), posD hs os, posD hs os2, .list (ss.map barD)]) := (An.tup (Ans.cons (an_web hr hg hb gl lb) (Ans.cons (an_pos P) (Ans.cons (an_pos P2) (Ans.cons (an_steps hss lss) .nil))))).mono (by omega) (by omega)
      simp [f_law_1b_6]
      refine wpO_of (repr_one A0 (by omega) (by omega)) ?_
      simp [y8.free, f_law_1b_7]
      have sw := show_web_spec (fuel := fuel) (k := k + 3) hr hg hb gl lb
      have s4' := show_standing_spec (fuel := fuel) (k := k + 1) P
      refine call_sh (ds := [webD r gs (bs.map barD)]) rfl (by simp) sw ?_
      simp
      refine call_sh (ds := [webD r gs (bs.map barD)]) rfl (by simp) sw ?_
      simp
      refine call_sh (ds := [posD hs os]) rfl (by simp) s4' ?_
      simp
      refine call_sh (ds := [posD hs os]) rfl (by simp) s4' ?_
      simp [y9.free, f_law_1b_8]
      have sh2 := show_wish_spec (fuel := fuel) (k := k) P2
      refine call_sh (ds := [posD hs os2]) rfl (by simp) sh2 ?_
      simp
      refine call_sh (ds := [posD hs os2]) rfl (by simp) sh2 ?_
      simp
      refine call_sh (ds := [posD hs os]) rfl (by simp) (show_wish_spec (fuel := fuel) (k := k) P) ?_
      simp [f_law_1b_9]
      have sm := show_moves_spec (fuel := fuel) (k := k + 3) hss lss
      refine call_sh (ds := [.list (ss.map barD)]) rfl (by simp) sm ?_
      simp
      refine call_sh (ds := [.list (ss.map barD)]) rfl (by simp) sm ?_
      simp [f_law_1b_10]
      refine call_sh (ds := [webD r gs (bs.map barD)]) rfl (by simp) (web_text_spec (fuel := fuel) (k := k + 3) hr hg hb gl lb) ?_
      simp [mul2]
      refine call_sh (ds := [posD hs os]) rfl (by simp) (two_text_spec (fuel := fuel) (k := k + 2) P) ?_
      simp [mul2, y10.free, f_law_1b_11]
      refine call_sh (ds := [posD hs os2]) rfl (by simp) (two_text_spec (fuel := fuel) (k := k + 2) P2) ?_
      simp [mul2]
      refine call_sh (ds := [posD hs os]) rfl (by simp) (two_text_spec (fuel := fuel) (k := k + 2) P) ?_
      simp [f_law_1b_12]
      refine call_sh (ds := [.list (ss.map barD)]) rfl (by simp) (moves_text_spec (fuel := fuel) (k := k + 3) hss lss) ?_
      simp [mul2, f_law_1b_13]
      have T : ∀ t ∈ [webS r gs bs, webS r gs bs, twoS hs os, twoS hs os, twoS hs os2, twoS hs os2, twoS hs os, movesS ss, movesS ss], Plain 61000 t := by
        have t1 := web_plain hr hg hb gl lb
        have t2 := (two_plain P).mono (show 600 ≤ 61000 by omega)
        have t3 := (two_plain P2).mono (show 600 ≤ 61000 by omega)
        have t4 := moves_plain hss lss
        intro t ht
        simp at ht
        rcases ht with rfl | rfl | rfl | rfl | rfl <;> assumption
      have rs := repr_strs T (by simp only [List.length_cons, List.length_nil]; show _ ≤ 16777216; omega)
      simp only [List.map_cons, List.map_nil] at rs
      generalize (PyData.list [PyData.str (webS r gs bs), PyData.str (webS r gs bs), PyData.str (twoS hs os), PyData.str (twoS hs os), PyData.str (twoS hs os2), PyData.str (twoS hs os2), PyData.str (twoS hs os), PyData.str (movesS ss), PyData.str (movesS ss)]).shown = z at rs
      refine wpO_of rs ?_
      simp
      refine wpO_of rs ?_
      simp [f_law_1b_14]
      refine wpO_of (repr_one A0 (by omega) (by omega)) ?_
      simp
      exact ⟨a6, g6, _, _, _, _, _, _, _, _, _, rfl, by omega, by omega, q3, .lo (.sh _), .lo (.sh _), .lo (.sh _), .lo (.sh _), .lo (.sh _), .lo (.sh _), .lo (.sh _), .ol _, .ol _⟩
  · rintro ρ ⟨a, g, x2, x3, x4, x5, x6, x7, x8, x9, x10, rfl, c1, c2, c3, y2, y3, y4, y5, y6, y7, y8, y9, y10⟩
    simp
end Q
namespace Q
open MI PySem PySem.Spec PyProof.Rows L2
def top (i : Nat) : Stmt := PySem.Challenge.pw_heelpence_k80_texts_shown.main.body.getD i (.Pass ⟨0, 0, 0, 0⟩)
def s_show_web : Stmt := top 2
def d_show_web : Df := ⟨"show_web", ["web", "rows", "one", "other", "price", "walker", "gate"], ["web"], defArgs s_show_web, defBody s_show_web, defScope s_show_web, f_show_web, [⟨0, ["web"], [.e 0]⟩, ⟨1, [], [.e 0]⟩], [], [], false⟩
def s_show_owner : Stmt := top 3
def d_show_owner : Df := ⟨"show_owner", ["owner"], ["owner"], defArgs s_show_owner, defBody s_show_owner, defScope s_show_owner, f_show_owner, [⟨1, [], [.e 0]⟩], [], [], false⟩
def s_show_owners : Stmt := top 4
def d_show_owners : Df := ⟨"show_owners", ["owners", "owner"], ["owners"], defArgs s_show_owners, defBody s_show_owners, defScope s_show_owners, f_show_owners, [⟨1, [], [.e 0]⟩], [], [], false⟩
def s_show_standing : Stmt := top 5
def d_show_standing : Df := ⟨"show_standing", ["standing", "places", "owners", "room"], ["standing"], defArgs s_show_standing, defBody s_show_standing, defScope s_show_standing, f_show_standing, [⟨0, ["standing"], [.e 0]⟩, ⟨1, [], [.e 0]⟩], [], [], false⟩
def s_show_wish : Stmt := top 6
def d_show_wish : Df := ⟨"show_wish", ["wish"], ["wish"], defArgs s_show_wish, defBody s_show_wish, defScope s_show_wish, f_show_wish, [⟨0, ["wish"], [.e 0]⟩, ⟨1, [], [.e 0]⟩], [], [], false⟩
def s_show_moves : Stmt := top 7
def d_show_moves : Df := ⟨"show_moves", ["moves", "walker", "gate"], ["moves"], defArgs s_show_moves, defBody s_show_moves, defScope s_show_moves, f_show_moves, [⟨0, ["moves"], [.e 0]⟩, ⟨1, [], [.e 0]⟩], [], [], false⟩
def s_law_pen : Stmt := top 9
def d_law_pen : Df := ⟨"_law_pen", ["_law_script"], ["_law_script"], defArgs s_law_pen, defBody s_law_pen, defScope s_law_pen, f_law_pen, [⟨1, [], [.e 0]⟩], [], [], false⟩
def s_law_draw : Stmt := top 10
def d_law_draw : Df := ⟨"_law_draw", ["_law_pen_here", "_law_many", "_law_at", "_law_cell", "_law_mixed", "_law_digit", "_law_great"], ["_law_pen_here", "_law_many"], defArgs s_law_draw, defBody s_law_draw, defScope s_law_draw, f_law_draw, [⟨2, [], [.e 0, .e 1]⟩], [], [], false⟩
def s_law_price : Stmt := top 11
def d_law_price : Df := ⟨"_law_price", ["_law_pen_here", "_law_great"], ["_law_pen_here"], defArgs s_law_price, defBody s_law_price, defScope s_law_price, f_law_price, [⟨1, [], [.e 0]⟩], [], [], false⟩
def s_law_ends : Stmt := top 12
def d_law_ends : Df := ⟨"_law_ends", ["_law_pen_here", "_law_kind", "_law_spots", "_law_at", "_law_head", "_law_some"], ["_law_pen_here", "_law_kind", "_law_spots", "_law_at"], defArgs s_law_ends, defBody s_law_ends, defScope s_law_ends, f_law_ends, [⟨4, [], [.e 0, .e 1, .e 2, .e 3]⟩], [], [], false⟩
def s_law_bars : Stmt := top 13
def d_law_bars : Df := ⟨"_law_bars", ["_law_pen_here", "_law_many", "_law_share", "_law_found", "_law_who", "_law_door"], ["_law_pen_here", "_law_many"], defArgs s_law_bars, defBody s_law_bars, defScope s_law_bars, f_law_bars, [⟨2, [], [.e 0, .e 1]⟩], [], [], false⟩
def s_law_web : Stmt := top 14
def d_law_web : Df := ⟨"_law_web", ["_law_pen_here", "_law_most_rooms", "_law_most_gates", "_law_kind", "_law_spots", "_law_many", "_law_doors", "_law_k"], ["_law_pen_here", "_law_most_rooms", "_law_most_gates"], defArgs s_law_web, defBody s_law_web, defScope s_law_web, f_law_web, [⟨3, [], [.e 0, .e 1, .e 2]⟩], [], [], false⟩
def s_law_standing : Stmt := top 15
def d_law_standing : Df := ⟨"_law_standing", ["_law_pen_here", "_law_net", "_law_hands", "_law_spots_now", "_law_kind", "_law_one", "_law_lords", "_law_door", "_law_some", "_law_who"], ["_law_pen_here", "_law_net"], defArgs s_law_standing, defBody s_law_standing, defScope s_law_standing, f_law_standing, [⟨2, [], [.e 0, .e 1]⟩], [], [], false⟩
def s_law_wish : Stmt := top 16
def d_law_wish : Df := ⟨"_law_wish", ["_law_pen_here", "_law_pose", "_law_share", "_law_lords", "_law_owner"], ["_law_pen_here", "_law_pose"], defArgs s_law_wish, defBody s_law_wish, defScope s_law_wish, f_law_wish, [⟨2, [], [.e 0, .e 1]⟩], [], [], false⟩
def s_law_lord : Stmt := top 17
def d_law_lord : Df := ⟨"_law_lord", ["_law_owner"], ["_law_owner"], defArgs s_law_lord, defBody s_law_lord, defScope s_law_lord, f_law_lord, [⟨1, [], [.e 0]⟩], [], [], false⟩
def s_law_web_text : Stmt := top 18
def d_law_web_text : Df := ⟨"_law_web_text", ["_law_net", "_law_rows", "_law_door", "_law_who"], ["_law_net"], defArgs s_law_web_text, defBody s_law_web_text, defScope s_law_web_text, f_law_web_text, [⟨1, [], [.e 0]⟩], [], [], false⟩
def s_law_two_text : Stmt := top 19
def d_law_two_text : Df := ⟨"_law_two_text", ["_law_pose", "_law_head", "_law_spot", "_law_owner"], ["_law_pose"], defArgs s_law_two_text, defBody s_law_two_text, defScope s_law_two_text, f_law_two_text, [⟨1, [], [.e 0]⟩], [], [], false⟩
def s_law_moves_text : Stmt := top 20
def d_law_moves_text : Df := ⟨"_law_moves_text", ["_law_steps", "_law_move"], ["_law_steps"], defArgs s_law_moves_text, defBody s_law_moves_text, defScope s_law_moves_text, f_law_moves_text, [⟨1, [], [.e 0]⟩], [], [], false⟩
def s_law : Stmt := top 21
def d_law : Df := ⟨"law", ["_law_script", "_law_pen_here", "_law_turn", "_law_net", "_law_pose", "_law_hope", "_law_many", "_law_steps", "_law_kept", "_law_found", "_law_due", "_law_k"], ["_law_script"], defArgs s_law, defBody s_law, defScope s_law, f_law, [], [], [], false⟩
def defs : List Df := [d_show_web, d_show_owner, d_show_owners, d_show_standing, d_show_wish, d_show_moves, d_law_pen, d_law_draw, d_law_price, d_law_ends, d_law_bars, d_law_web, d_law_standing, d_law_wish, d_law_lord, d_law_web_text, d_law_two_text, d_law_moves_text, d_law]
def cs : List (String × Cn) := [("ANY", .s "any")]
def lt : List LotTx := []
theorem all_g : ∀ q ∈ lt, q.Good := by
  intro q hm
  cases hm
def gi : Gi := ⟨sigsOf defs, cs.map fun p => (p.1, p.2.d), lt.map LotTx.g⟩
theorem b_show_web : BindOk d_show_web := by
  refine ⟨fun sh hm => ?_, fun hst => ?_⟩
  · rcases List.mem_cons.mp hm with rfl | hm
    · intro kV doc pm an cdv ct us ws h1 h2
      exact match us, ws, h1, h2 with | [], [b0], _, _ => rfl
    rcases List.mem_cons.mp hm with rfl | hm
    · intro kV doc pm an cdv ct us ws h1 h2
      exact match us, ws, h1, h2 with | [a0], [], _, _ => rfl
    · cases hm
  · cases hst
theorem b_show_owner : BindOk d_show_owner := by
  refine ⟨fun sh hm => ?_, fun hst => ?_⟩
  · rcases List.mem_cons.mp hm with rfl | hm
    · intro kV doc pm an cdv ct us ws h1 h2
      exact match us, ws, h1, h2 with | [a0], [], _, _ => rfl
    · cases hm
  · cases hst
theorem b_show_owners : BindOk d_show_owners := by
  refine ⟨fun sh hm => ?_, fun hst => ?_⟩
  · rcases List.mem_cons.mp hm with rfl | hm
    · intro kV doc pm an cdv ct us ws h1 h2
      exact match us, ws, h1, h2 with | [a0], [], _, _ => rfl
    · cases hm
  · cases hst
theorem b_show_standing : BindOk d_show_standing := by
  refine ⟨fun sh hm => ?_, fun hst => ?_⟩
  · rcases List.mem_cons.mp hm with rfl | hm
    · intro kV doc pm an cdv ct us ws h1 h2
      exact match us, ws, h1, h2 with | [], [b0], _, _ => rfl
    rcases List.mem_cons.mp hm with rfl | hm
    · intro kV doc pm an cdv ct us ws h1 h2
      exact match us, ws, h1, h2 with | [a0], [], _, _ => rfl
    · cases hm
  · cases hst
theorem b_show_wish : BindOk d_show_wish := by
  refine ⟨fun sh hm => ?_, fun hst => ?_⟩
  · rcases List.mem_cons.mp hm with rfl | hm
    · intro kV doc pm an cdv ct us ws h1 h2
      exact match us, ws, h1, h2 with | [], [b0], _, _ => rfl
    rcases List.mem_cons.mp hm with rfl | hm
    · intro kV doc pm an cdv ct us ws h1 h2
      exact match us, ws, h1, h2 with | [a0], [], _, _ => rfl
    · cases hm
  · cases hst
theorem b_show_moves : BindOk d_show_moves := by
  refine ⟨fun sh hm => ?_, fun hst => ?_⟩
  · rcases List.mem_cons.mp hm with rfl | hm
    · intro kV doc pm an cdv ct us ws h1 h2
      exact match us, ws, h1, h2 with | [], [b0], _, _ => rfl
    rcases List.mem_cons.mp hm with rfl | hm
    · intro kV doc pm an cdv ct us ws h1 h2
      exact match us, ws, h1, h2 with | [a0], [], _, _ => rfl
    · cases hm
  · cases hst
theorem b_law_pen : BindOk d_law_pen := by
  refine ⟨fun sh hm => ?_, fun hst => ?_⟩
  · rcases List.mem_cons.mp hm with rfl | hm
    · intro kV doc pm an cdv ct us ws h1 h2
      exact match us, ws, h1, h2 with | [a0], [], _, _ => rfl
    · cases hm
  · cases hst
theorem b_law_draw : BindOk d_law_draw := by
  refine ⟨fun sh hm => ?_, fun hst => ?_⟩
  · rcases List.mem_cons.mp hm with rfl | hm
    · intro kV doc pm an cdv ct us ws h1 h2
      exact match us, ws, h1, h2 with | [a0, a1], [], _, _ => rfl
    · cases hm
  · cases hst
theorem b_law_price : BindOk d_law_price := by
  refine ⟨fun sh hm => ?_, fun hst => ?_⟩
  · rcases List.mem_cons.mp hm with rfl | hm
    · intro kV doc pm an cdv ct us ws h1 h2
      exact match us, ws, h1, h2 with | [a0], [], _, _ => rfl
    · cases hm
  · cases hst
theorem b_law_ends : BindOk d_law_ends := by
  refine ⟨fun sh hm => ?_, fun hst => ?_⟩
  · rcases List.mem_cons.mp hm with rfl | hm
    · intro kV doc pm an cdv ct us ws h1 h2
      exact match us, ws, h1, h2 with | [a0, a1, a2, a3], [], _, _ => rfl
    · cases hm
  · cases hst
theorem b_law_bars : BindOk d_law_bars := by
  refine ⟨fun sh hm => ?_, fun hst => ?_⟩
  · rcases List.mem_cons.mp hm with rfl | hm
    · intro kV doc pm an cdv ct us ws h1 h2
      exact match us, ws, h1, h2 with | [a0, a1], [], _, _ => rfl
    · cases hm
  · cases hst
theorem b_law_web : BindOk d_law_web := by
  refine ⟨fun sh hm => ?_, fun hst => ?_⟩
  · rcases List.mem_cons.mp hm with rfl | hm
    · intro kV doc pm an cdv ct us ws h1 h2
      exact match us, ws, h1, h2 with | [a0, a1, a2], [], _, _ => rfl
    · cases hm
  · cases hst
theorem b_law_standing : BindOk d_law_standing := by
  refine ⟨fun sh hm => ?_, fun hst => ?_⟩
  · rcases List.mem_cons.mp hm with rfl | hm
    · intro kV doc pm an cdv ct us ws h1 h2
      exact match us, ws, h1, h2 with | [a0, a1], [], _, _ => rfl
    · cases hm
  · cases hst
theorem b_law_wish : BindOk d_law_wish := by
  refine ⟨fun sh hm => ?_, fun hst => ?_⟩
  · rcases List.mem_cons.mp hm with rfl | hm
    · intro kV doc pm an cdv ct us ws h1 h2
      exact match us, ws, h1, h2 with | [a0, a1], [], _, _ => rfl
    · cases hm
  · cases hst
theorem b_law_lord : BindOk d_law_lord := by
  refine ⟨fun sh hm => ?_, fun hst => ?_⟩
  · rcases List.mem_cons.mp hm with rfl | hm
    · intro kV doc pm an cdv ct us ws h1 h2
      exact match us, ws, h1, h2 with | [a0], [], _, _ => rfl
    · cases hm
  · cases hst
theorem b_law_web_text : BindOk d_law_web_text := by
  refine ⟨fun sh hm => ?_, fun hst => ?_⟩
  · rcases List.mem_cons.mp hm with rfl | hm
    · intro kV doc pm an cdv ct us ws h1 h2
      exact match us, ws, h1, h2 with | [a0], [], _, _ => rfl
    · cases hm
  · cases hst
theorem b_law_two_text : BindOk d_law_two_text := by
  refine ⟨fun sh hm => ?_, fun hst => ?_⟩
  · rcases List.mem_cons.mp hm with rfl | hm
    · intro kV doc pm an cdv ct us ws h1 h2
      exact match us, ws, h1, h2 with | [a0], [], _, _ => rfl
    · cases hm
  · cases hst
theorem b_law_moves_text : BindOk d_law_moves_text := by
  refine ⟨fun sh hm => ?_, fun hst => ?_⟩
  · rcases List.mem_cons.mp hm with rfl | hm
    · intro kV doc pm an cdv ct us ws h1 h2
      exact match us, ws, h1, h2 with | [a0], [], _, _ => rfl
    · cases hm
  · cases hst
theorem b_law : BindOk d_law := by
  refine ⟨fun sh hm => ?_, fun hst => ?_⟩
  · cases hm
  · cases hst
theorem all_b : ∀ d ∈ defs, BindOk d := by
  intro d hm
  rcases List.mem_cons.mp hm with rfl | hm
  · exact b_show_web
  rcases List.mem_cons.mp hm with rfl | hm
  · exact b_show_owner
  rcases List.mem_cons.mp hm with rfl | hm
  · exact b_show_owners
  rcases List.mem_cons.mp hm with rfl | hm
  · exact b_show_standing
  rcases List.mem_cons.mp hm with rfl | hm
  · exact b_show_wish
  rcases List.mem_cons.mp hm with rfl | hm
  · exact b_show_moves
  rcases List.mem_cons.mp hm with rfl | hm
  · exact b_law_pen
  rcases List.mem_cons.mp hm with rfl | hm
  · exact b_law_draw
  rcases List.mem_cons.mp hm with rfl | hm
  · exact b_law_price
  rcases List.mem_cons.mp hm with rfl | hm
  · exact b_law_ends
  rcases List.mem_cons.mp hm with rfl | hm
  · exact b_law_bars
  rcases List.mem_cons.mp hm with rfl | hm
  · exact b_law_web
  rcases List.mem_cons.mp hm with rfl | hm
  · exact b_law_standing
  rcases List.mem_cons.mp hm with rfl | hm
  · exact b_law_wish
  rcases List.mem_cons.mp hm with rfl | hm
  · exact b_law_lord
  rcases List.mem_cons.mp hm with rfl | hm
  · exact b_law_web_text
  rcases List.mem_cons.mp hm with rfl | hm
  · exact b_law_two_text
  rcases List.mem_cons.mp hm with rfl | hm
  · exact b_law_moves_text
  rcases List.mem_cons.mp hm with rfl | hm
  · exact b_law
  cases hm
theorem all_sh : ∀ d ∈ defs, shB d = true := by decide +kernel
theorem o_show_web : okDf gi d_show_web = true := by decide +kernel
theorem o_show_owner : okDf gi d_show_owner = true := by decide +kernel
theorem o_show_owners : okDf gi d_show_owners = true := by decide +kernel
theorem o_show_standing : okDf gi d_show_standing = true := by decide +kernel
theorem o_show_wish : okDf gi d_show_wish = true := by decide +kernel
theorem o_show_moves : okDf gi d_show_moves = true := by decide +kernel
theorem o_law_pen : okDf gi d_law_pen = true := by decide +kernel
theorem o_law_draw : okDf gi d_law_draw = true := by decide +kernel
theorem o_law_price : okDf gi d_law_price = true := by decide +kernel
theorem o_law_ends : okDf gi d_law_ends = true := by decide +kernel
theorem o_law_bars : okDf gi d_law_bars = true := by decide +kernel
theorem o_law_web : okDf gi d_law_web = true := by decide +kernel
theorem o_law_standing : okDf gi d_law_standing = true := by decide +kernel
theorem o_law_wish : okDf gi d_law_wish = true := by decide +kernel
theorem o_law_lord : okDf gi d_law_lord = true := by decide +kernel
theorem o_law_web_text : okDf gi d_law_web_text = true := by decide +kernel
theorem o_law_two_text : okDf gi d_law_two_text = true := by decide +kernel
theorem o_law_moves_text : okDf gi d_law_moves_text = true := by decide +kernel
theorem o_law : okDf gi d_law = true := by decide +kernel
theorem all_ok : ∀ d ∈ defs, okDf gi d = true := by
  intro d hm
  rcases List.mem_cons.mp hm with rfl | hm
  · exact o_show_web
  rcases List.mem_cons.mp hm with rfl | hm
  · exact o_show_owner
  rcases List.mem_cons.mp hm with rfl | hm
  · exact o_show_owners
  rcases List.mem_cons.mp hm with rfl | hm
  · exact o_show_standing
  rcases List.mem_cons.mp hm with rfl | hm
  · exact o_show_wish
  rcases List.mem_cons.mp hm with rfl | hm
  · exact o_show_moves
  rcases List.mem_cons.mp hm with rfl | hm
  · exact o_law_pen
  rcases List.mem_cons.mp hm with rfl | hm
  · exact o_law_draw
  rcases List.mem_cons.mp hm with rfl | hm
  · exact o_law_price
  rcases List.mem_cons.mp hm with rfl | hm
  · exact o_law_ends
  rcases List.mem_cons.mp hm with rfl | hm
  · exact o_law_bars
  rcases List.mem_cons.mp hm with rfl | hm
  · exact o_law_web
  rcases List.mem_cons.mp hm with rfl | hm
  · exact o_law_standing
  rcases List.mem_cons.mp hm with rfl | hm
  · exact o_law_wish
  rcases List.mem_cons.mp hm with rfl | hm
  · exact o_law_lord
  rcases List.mem_cons.mp hm with rfl | hm
  · exact o_law_web_text
  rcases List.mem_cons.mp hm with rfl | hm
  · exact o_law_two_text
  rcases List.mem_cons.mp hm with rfl | hm
  · exact o_law_moves_text
  rcases List.mem_cons.mp hm with rfl | hm
  · exact o_law
  cases hm
theorem c_show_web : FnScope d_show_web.N d_show_web.ps d_show_web.scope := ⟨rfl, rfl, rfl, by decide +kernel, rfl, by decide +kernel, by decide +kernel⟩
theorem c_show_owner : FnScope d_show_owner.N d_show_owner.ps d_show_owner.scope := ⟨rfl, rfl, rfl, by decide +kernel, rfl, by decide +kernel, by decide +kernel⟩
theorem c_show_owners : FnScope d_show_owners.N d_show_owners.ps d_show_owners.scope := ⟨rfl, rfl, rfl, by decide +kernel, rfl, by decide +kernel, by decide +kernel⟩
theorem c_show_standing : FnScope d_show_standing.N d_show_standing.ps d_show_standing.scope := ⟨rfl, rfl, rfl, by decide +kernel, rfl, by decide +kernel, by decide +kernel⟩
theorem c_show_wish : FnScope d_show_wish.N d_show_wish.ps d_show_wish.scope := ⟨rfl, rfl, rfl, by decide +kernel, rfl, by decide +kernel, by decide +kernel⟩
theorem c_show_moves : FnScope d_show_moves.N d_show_moves.ps d_show_moves.scope := ⟨rfl, rfl, rfl, by decide +kernel, rfl, by decide +kernel, by decide +kernel⟩
theorem c_law_pen : FnScope d_law_pen.N d_law_pen.ps d_law_pen.scope := ⟨rfl, rfl, rfl, by decide +kernel, rfl, by decide +kernel, by decide +kernel⟩
theorem c_law_draw : FnScope d_law_draw.N d_law_draw.ps d_law_draw.scope := ⟨rfl, rfl, rfl, by decide +kernel, rfl, by decide +kernel, by decide +kernel⟩
theorem c_law_price : FnScope d_law_price.N d_law_price.ps d_law_price.scope := ⟨rfl, rfl, rfl, by decide +kernel, rfl, by decide +kernel, by decide +kernel⟩
theorem c_law_ends : FnScope d_law_ends.N d_law_ends.ps d_law_ends.scope := ⟨rfl, rfl, rfl, by decide +kernel, rfl, by decide +kernel, by decide +kernel⟩
theorem c_law_bars : FnScope d_law_bars.N d_law_bars.ps d_law_bars.scope := ⟨rfl, rfl, rfl, by decide +kernel, rfl, by decide +kernel, by decide +kernel⟩
theorem c_law_web : FnScope d_law_web.N d_law_web.ps d_law_web.scope := ⟨rfl, rfl, rfl, by decide +kernel, rfl, by decide +kernel, by decide +kernel⟩
theorem c_law_standing : FnScope d_law_standing.N d_law_standing.ps d_law_standing.scope := ⟨rfl, rfl, rfl, by decide +kernel, rfl, by decide +kernel, by decide +kernel⟩
theorem c_law_wish : FnScope d_law_wish.N d_law_wish.ps d_law_wish.scope := ⟨rfl, rfl, rfl, by decide +kernel, rfl, by decide +kernel, by decide +kernel⟩
theorem c_law_lord : FnScope d_law_lord.N d_law_lord.ps d_law_lord.scope := ⟨rfl, rfl, rfl, by decide +kernel, rfl, by decide +kernel, by decide +kernel⟩
theorem c_law_web_text : FnScope d_law_web_text.N d_law_web_text.ps d_law_web_text.scope := ⟨rfl, rfl, rfl, by decide +kernel, rfl, by decide +kernel, by decide +kernel⟩
theorem c_law_two_text : FnScope d_law_two_text.N d_law_two_text.ps d_law_two_text.scope := ⟨rfl, rfl, rfl, by decide +kernel, rfl, by decide +kernel, by decide +kernel⟩
theorem c_law_moves_text : FnScope d_law_moves_text.N d_law_moves_text.ps d_law_moves_text.scope := ⟨rfl, rfl, rfl, by decide +kernel, rfl, by decide +kernel, by decide +kernel⟩
theorem c_law : FnScope d_law.N d_law.ps d_law.scope := ⟨rfl, rfl, rfl, by decide +kernel, rfl, by decide +kernel, by decide +kernel⟩
theorem all_sc : ∀ d ∈ defs, FnScope d.N d.ps d.scope := by
  intro d hm
  rcases List.mem_cons.mp hm with rfl | hm
  · exact c_show_web
  rcases List.mem_cons.mp hm with rfl | hm
  · exact c_show_owner
  rcases List.mem_cons.mp hm with rfl | hm
  · exact c_show_owners
  rcases List.mem_cons.mp hm with rfl | hm
  · exact c_show_standing
  rcases List.mem_cons.mp hm with rfl | hm
  · exact c_show_wish
  rcases List.mem_cons.mp hm with rfl | hm
  · exact c_show_moves
  rcases List.mem_cons.mp hm with rfl | hm
  · exact c_law_pen
  rcases List.mem_cons.mp hm with rfl | hm
  · exact c_law_draw
  rcases List.mem_cons.mp hm with rfl | hm
  · exact c_law_price
  rcases List.mem_cons.mp hm with rfl | hm
  · exact c_law_ends
  rcases List.mem_cons.mp hm with rfl | hm
  · exact c_law_bars
  rcases List.mem_cons.mp hm with rfl | hm
  · exact c_law_web
  rcases List.mem_cons.mp hm with rfl | hm
  · exact c_law_standing
  rcases List.mem_cons.mp hm with rfl | hm
  · exact c_law_wish
  rcases List.mem_cons.mp hm with rfl | hm
  · exact c_law_lord
  rcases List.mem_cons.mp hm with rfl | hm
  · exact c_law_web_text
  rcases List.mem_cons.mp hm with rfl | hm
  · exact c_law_two_text
  rcases List.mem_cons.mp hm with rfl | hm
  · exact c_law_moves_text
  rcases List.mem_cons.mp hm with rfl | hm
  · exact c_law
  cases hm
abbrev R : PySem.W.OpenRow := PySem.W.OpenLaw.row PySem.Challenge.rw_heelpence_k80_texts_shown
def loose0 : List Str := ["ANY", "show_web", "show_owner", "show_owners", "show_standing", "show_wish", "show_moves", "_law_pen", "_law_draw", "_law_price", "_law_ends", "_law_bars", "_law_web", "_law_standing", "_law_wish", "_law_lord", "_law_web_text", "_law_two_text", "_law_moves_text"]
def loose : List Str := loose0
abbrev cs2 : List (Str × Cn) := cs.map fun p => (Str.ofString p.1, p.2)
abbrev hk : PySem.W.Hook := MI.hookX 4 (faOf defs cs2 lt) (fnOfD defs lt) lt
def ob (s : PySem.W.SharedT) : He.AlD := MI.obsXG 4 (faOf defs cs2 lt) (fnOfD defs lt) lt (HandSHeadRun.getT s)
theorem ob_eq (s : PySem.W.SharedT) : ob s = hk.obs s.abs := MI.obsXG_eq (HandSHeadRun.getT_eq s)
theorem topRun (w : World) : HandSHeadRun.RunEq R (PySem.W.view R.prog [21]) hk ob 6000 loose w := by
  intro os
  kernel_rfl
theorem holds : ∀ ns : List Int, ns.length ≤ 63 → ∃ fin, MI.run (defs.map (·.fd)) 1000 8 18 [.sc ns] = .ret (.sh (.bool true)) fin := by
  intro ns _
  obtain ⟨m, fin, e, p⟩ := law_ok (fuel := 1000) 3 ns
  subst p
  exact ⟨fin, e⟩
end Q
open PySem PySem.W PySem.Calls PyProof.Rows
theorem PySem.Challenge.cw_heelpence_k80_texts_shown_holds : PySem.Challenge.rw_heelpence_k80_texts_shown.Holds := by
  w_on; o_law
  refine HandSHeadRun.head_any (r := OpenLaw.row PySem.Challenge.rw_heelpence_k80_texts_shown) (q := view (OpenLaw.row PySem.Challenge.rw_heelpence_k80_texts_shown).prog [21]) (H := Q.hk) (ob := Q.ob) (M := 6000) (loose := Q.loose) (d := HandSHeadRun.topDef (OpenLaw.row PySem.Challenge.rw_heelpence_k80_texts_shown).prog 21) (kwd := []) Q.ob_eq
    (by kernel_rfl) (fun s => by kernel_rfl) Q.topRun (by kernel_rfl) (by kernel_rfl) (by kernel_rfl) (by rfl) (by first | assumption | decide +kernel) (by decide +kernel) ⟨rfl, rfl, rfl, rfl, rfl, by decide +kernel⟩ ?hw ?hc
  case hw => w_witness2
  case hc =>
    exact MI.end_of (l := PySem.Challenge.rw_heelpence_k80_texts_shown) (n := 63) (k := 8) (x := "_law_script") (defs := Q.defs) (cs := Q.cs) (lt := Q.lt) (gi := Q.gi) (li := 18) (dl := Q.d_law) 1000 _ rfl (by decide) (by kernel_rfl) ⟨rfl, by decide, by decide⟩ Q.all_g rfl rfl rfl Q.all_b Q.all_sh Q.all_ok Q.all_sc rfl (by kernel_rfl) rfl rfl (fun _ _ _ _ _ _ _ => rfl) Q.holds
